import PyProof.Rows.All
import Wide.All
import OpenK.AllK
import Wide.FinOn
import KE.LcTurns
import PySem.Challenge.RW_no0268_01
set_option maxRecDepth 100000
set_option Elab.async false
set_option linter.all false
set_option maxHeartbeats 8000000
namespace Mine
open PySem PySem.W PyProof.Rows
open_top hd for PySem.Challenge.rw_no0268_01
end Mine
namespace Mine
open PySem PySem.W PySem.Calls PyProof.Rows
/-- pure values -/
inductive PV where
  | none
  | bool (b : Bool)
  | int (i : Int)
  | str (s : List Nat)
  | tup (l : List PV)
  | list (l : List PV)
  | loc (k : Nat)
  | tab (k : Nat)
inductive Out (α : Type) where
  | ok (a : α)
  | exc
  | stuck
def Out.bind {α β : Type} : Out α → (α → Out β) → Out β
  | .ok a, f => f a
  | .exc, _ => .exc
  | .stuck, _ => .stuck
abbrev Store := List (List PV)
abbrev Env' := List (Option PV)
inductive BO where
  | add | sub | mul | div | mod | pow
  deriving DecidableEq
inductive CO where
  | eq | ne | lt | le | gt | ge | isin | notin | is | isnot
  deriving DecidableEq
inductive BI where
  | len | int | str | abs | max
  deriving DecidableEq
inductive ME where
  | append | pop | get | isalnum
  deriving DecidableEq
mutual
inductive PE where
  | bad
  | var (k : Nat)
  | cst (v : PV)
  | bin (o : BO) (a b : PE)
  | neg (a : PE)
  | not (a : PE)
  | bool (isAnd : Bool) (es : PEs)
  | cmp (o : CO) (a b : PE)
  | ite (t a b : PE)
  | call (f : Nat) (es : PEs)
  | bi (f : BI) (es : PEs)
  | me (m : ME) (o : PE) (es : PEs)
  | idx (a i : PE)
  | cut (a lo hi : PE)
  | tup (es : PEs)
  | lst (es : PEs)
inductive PEs where
  | nil
  | cons (e : PE) (r : PEs)
end
mutual
inductive PS where
  | bad
  | asg (k : Nat) (e : PE)
  | asgT (ks : List Nat) (e : PE)
  | put (o i e : PE)
  | aug (k : Nat) (o : BO) (e : PE)
  | iff (t : PE) (a b : PSs)
  | whl (t : PE) (b : PSs)
  | forr (k : Nat) (lo hi : PE) (b : PSs)
  | ret (e : PE)
  | raise (c : Nat) (es : PEs)
  | exp (e : PE)
  | cont
inductive PSs where
  | nil
  | cons (s : PS) (r : PSs)
end
inductive Fl where
  | next | cont | ret (v : PV)
abbrev szL : Nat := 2 ^ 24
def liftO {α : Type} (σ : Store) : Option α → Out (α × Store)
  | some v => .ok (v, σ)
  | .none => .stuck
/-- is the run of digits (code points) an int's text: only figures, one at least, at most 640 -/
def digitsOk (s : List Nat) : Bool := !s.isEmpty && s.all (fun c => 48 ≤ c && c ≤ 57) && s.length ≤ 640
def digitsVal (s : List Nat) : Nat := s.foldl (fun a c => a * 10 + (c - 48)) 0
def intText (i : Int) : List Nat := (toString i).toList.map Char.toNat
def binP : BO → PV → PV → Option PV
  | .add, .int a, .int b => some (.int (a + b))
  | .add, .str a, .str b => if a.length + b.length ≤ szL then some (.str (a ++ b)) else none
  | .sub, .int a, .int b => some (.int (a - b))
  | .mul, .int a, .int b => if a.natAbs < 2 ^ 63 then some (.int (a * b)) else none
  | .mul, .str [c], .int b => if 0 ≤ b ∧ b ≤ 1000 then some (.str (List.replicate b.toNat c)) else none
  | .div, .int a, .int b => if b = 10 then some (.int (Int.fdiv a b)) else none
  | .mod, .int a, .int b => if 0 < b then some (.int (Int.fmod a b)) else none
  | .pow, .int a, .int b => if a = 10 ∧ b = 12 then some (.int 1000000000000) else none
  | _, _, _ => none
def inTup (s : List Nat) : List PV → Option Bool
  | [] => some false
  | .str t :: r => if s = t then some true else inTup s r
  | _ :: _ => none
/-- all items are texts -/
def textsOnly : List PV → Bool
  | [] => true
  | .str _ :: r => textsOnly r
  | _ :: _ => false
def cmpP : CO → PV → PV → Option Bool
  | .eq, .int a, .int b => some (decide (a = b))
  | .eq, .str a, .str b => some (decide (a = b))
  | .ne, .int a, .int b => some (!decide (a = b))
  | .ne, .str a, .str b => some (!decide (a = b))
  | .lt, .int a, .int b => some (decide (a < b))
  | .le, .int a, .int b => some (decide (a ≤ b))
  | .gt, .int a, .int b => some (decide (b < a))
  | .ge, .int a, .int b => some (decide (b ≤ a))
  | .isin, .str [a], .str b => some (b.contains a)
  | .notin, .str [a], .str b => some (!b.contains a)
  | .isin, .str a, .tup l => if textsOnly l then inTup a l else none
  | .is, .none, .none => some true
  | .is, .tup _, .none => some false
  | .isnot, .none, .none => some false
  | .isnot, .tup _, .none => some true
  | _, _, _ => none
def truthP (σ : Store) : PV → Option Bool
  | .bool b => some b
  | .loc k => (σ[k]?).map fun l => !l.isEmpty
  | _ => none
def biP (σ : Store) : BI → List PV → Option PV
  | .len, [.str s] => if s.length ≤ szL then some (.int s.length) else none
  | .len, [.list l] => if l.length ≤ szL then some (.int l.length) else none
  | .len, [.loc k] => (σ[k]?).map fun l => .int l.length
  | .int, [.str s] => if digitsOk s then some (.int (digitsVal s)) else none
  | .str, [.int i] => if i.natAbs < 10 ^ 100 then some (.str (intText i)) else none
  | .abs, [.int i] => some (.int i.natAbs)
  | .max, [.int a, .int b] => some (.int (max a b))
  | _, _ => none
/-- Python's index: negative counts from the end -/
def pyIdx (k : Int) (n : Nat) : Option Nat :=
  if 0 ≤ k then (if k.toNat < n then some k.toNat else none)
  else (if 0 ≤ k + n then some (k + n).toNat else none)
def chs (x : String) : List Nat := x.toList.map Char.toNat
def three (a b c : Int) : PV := .tup [.int a, .int b, .int c]
def bindsT : List (List Nat × PV) := [([42, 42], three 9 10 9), ([42], three 8 8 9), ([47], three 8 8 9), ([43], three 7 7 8), ([45], three 7 7 8), ([47, 47], three 6 6 7),
  ([46, 69, 81, 46], three 5 6 6), ([46, 78, 69, 46], three 5 6 6), ([46, 76, 84, 46], three 5 6 6), ([46, 76, 69, 46], three 5 6 6), ([46, 71, 84, 46], three 5 6 6), ([46, 71, 69, 46], three 5 6 6),
  ([46, 65, 78, 68, 46], three 3 3 4), ([46, 79, 82, 46], three 2 2 3), ([46, 69, 81, 86, 46], three 1 1 2), ([46, 78, 69, 81, 86, 46], three 1 1 2)]
def unaryT : List (List Nat × PV) := [([43], .tup [.int 7, .int 8]), ([45], .tup [.int 7, .int 8]), ([46, 78, 79, 84, 46], .tup [.int 4, .int 5])]
def priosT : List (List Nat × PV) := [([46, 69, 81, 86, 46], .int 1), ([46, 78, 69, 81, 86, 46], .int 1), ([46, 79, 82, 46], .int 2), ([46, 65, 78, 68, 46], .int 3),
  ([46, 69, 81, 46], .int 5), ([46, 78, 69, 46], .int 5), ([46, 76, 84, 46], .int 5), ([46, 76, 69, 46], .int 5), ([46, 71, 84, 46], .int 5), ([46, 71, 69, 46], .int 5),
  ([47, 47], .int 6), ([43], .int 7), ([45], .int 7), ([42], .int 8), ([47], .int 8), ([42, 42], .int 9)]
/-- the program's three tables -/
def tabs : List (List (List Nat × PV)) := [bindsT, unaryT, priosT]
def tabP (k : Nat) (s : List Nat) : Option PV := (tabs[k]?).bind fun l => l.lookup s
def idxP (σ : Store) : PV → PV → Option PV
  | .tup l, .int k => if k.natAbs < 2 ^ 62 then (pyIdx k l.length).bind (l[·]?) else none
  | .list l, .int k => if k.natAbs < 2 ^ 62 then (pyIdx k l.length).bind (l[·]?) else none
  | .loc j, .int k => if k.natAbs < 2 ^ 62 then (σ[j]?).bind fun l => (pyIdx k l.length).bind (l[·]?) else none
  | .str s, .int k => if k.natAbs < 2 ^ 62 then (pyIdx k s.length).bind fun i => (s[i]?).map fun c => .str [c] else none
  | .tab j, .str s => tabP j s
  | _, _ => none
def bnd (k : Int) (n : Nat) : Nat := if 0 ≤ k then min k.toNat n else (k + n).toNat
def cutL {α : Type} (l : List α) (lo hi : Nat) : List α := (l.take hi).drop lo
def boundP : PV → Option (Option Int)
  | .none => some none
  | .int k => some (some k)
  | _ => none
def lowOf (n : Nat) : Option Int → Nat
  | none => 0
  | some i => bnd i n
def highOf (n : Nat) : Option Int → Nat
  | none => n
  | some i => bnd i n
def cutP : PV → PV → PV → Option PV
  | .str s, lo, hi => if s.length ≤ szL then (boundP lo).bind fun a => (boundP hi).map fun b => .str (cutL s (lowOf s.length a) (highOf s.length b)) else none
  | _, _, _ => none
abbrev EV := Env' → Store → Out (PV × Store)
abbrev ET := Env' → Store → Out (Bool × Store)
def trOf (v : EV) : ET := fun env σ => (v env σ).bind fun r => liftO r.2 (truthP r.2 r.1)
def wV (v : EV) : EV × ET := (v, trOf v)
def meP : ME → PV → List PV → Store → Out (PV × Store)
  | .append, .loc k, [v], σ => (match σ[k]? with
      | some l => if l.length < szL then .ok (.none, σ.set k (l ++ [v])) else .stuck
      | none => .stuck)
  | .pop, .loc k, [], σ => (match σ[k]? with
      | some l => (match l.getLast? with
        | some v => .ok (v, σ.set k l.dropLast)
        | none => .stuck)
      | none => .stuck)
  | .get, .tab k, [.str s, .int d], σ => .ok ((tabP k s).getD (.int d), σ)
  | .isalnum, .str [c], [], σ => if c < 128 then .ok (.bool ((48 ≤ c && c ≤ 57) || (65 ≤ c && c ≤ 90) || (97 ≤ c && c ≤ 122)), σ) else .stuck
  | _, _, _, _ => .stuck
/-- the receiver that a method wants -/
def recvP : ME → PV → Bool
  | .append, .loc _ => true
  | .pop, .loc _ => true
  | .isalnum, .str _ => true
  | .get, .tab _ => true
  | _, _ => false
section
variable (C : Nat → List PV → Store → Out (PV × Store))
structure EVs where
  vals : Env' → Store → Out (List PV × Store)
  b : Bool → EV
  a : Bool → ET
  isNil : Bool
mutual
def ev : PE → EV × ET
  | .bad => wV fun _ _ => .stuck
  | .var k => wV fun env σ => liftO σ (env.getD k none)
  | .cst v => wV fun _ σ => .ok (v, σ)
  | .bin o a b => wV fun env σ => ((ev a).1 env σ).bind fun r => ((ev b).1 env r.2).bind fun q => liftO q.2 (binP o r.1 q.1)
  | .neg a => wV fun env σ => ((ev a).1 env σ).bind fun r => match r.1 with | .int i => .ok (.int (-i), r.2) | _ => .stuck
  | .not a => (fun env σ => ((ev a).1 env σ).bind fun r => (liftO r.2 (truthP r.2 r.1)).bind fun q => .ok (.bool (!q.1), q.2),
               fun env σ => ((ev a).2 env σ).bind fun r => .ok (!r.1, r.2))
  | .bool c es => ((evs es).b c, (evs es).a c)
  | .cmp o a b => wV fun env σ => ((ev a).1 env σ).bind fun r => ((ev b).1 env r.2).bind fun q => liftO q.2 ((cmpP o r.1 q.1).map PV.bool)
  | .ite t a b => (fun env σ => ((ev t).2 env σ).bind fun r => match r.1 with | true => (ev a).1 env r.2 | false => (ev b).1 env r.2,
                   fun env σ => ((ev t).2 env σ).bind fun r => match r.1 with | true => (ev a).2 env r.2 | false => (ev b).2 env r.2)
  | .call f es => wV fun env σ => ((evs es).vals env σ).bind fun r => C f r.1 r.2
  | .bi f es => wV fun env σ => ((evs es).vals env σ).bind fun r => liftO r.2 (biP r.2 f r.1)
  | .me m o es => wV fun env σ => ((ev o).1 env σ).bind fun r => match recvP m r.1 with | true => ((evs es).vals env r.2).bind fun q => meP m r.1 q.1 q.2 | false => .stuck
  | .idx a i => wV fun env σ => ((ev a).1 env σ).bind fun r => ((ev i).1 env r.2).bind fun q => liftO q.2 (idxP q.2 r.1 q.1)
  | .cut a lo hi => wV fun env σ => ((ev a).1 env σ).bind fun r => ((ev lo).1 env r.2).bind fun q => ((ev hi).1 env q.2).bind fun t => liftO t.2 (cutP r.1 q.1 t.1)
  | .tup es => wV fun env σ => ((evs es).vals env σ).bind fun r => .ok (.tup r.1, r.2)
  | .lst es => wV fun env σ => ((evs es).vals env σ).bind fun r => .ok (.loc r.2.length, r.2 ++ [r.1])
def evs : PEs → EVs
  | .nil => { vals := fun _ σ => .ok ([], σ), b := fun _ _ _ => .stuck, a := fun c _ σ => .ok (c, σ), isNil := true }
  | .cons e r =>
    { vals := fun env σ => ((ev e).1 env σ).bind fun v => ((evs r).vals env v.2).bind fun vs => .ok (v.1 :: vs.1, vs.2)
      b := fun c env σ => match (evs r).isNil with
        | true => (ev e).1 env σ
        | false => ((ev e).1 env σ).bind fun v => (liftO v.2 (truthP v.2 v.1)).bind fun t =>
            match (t.1 == c) with | true => (evs r).b c env v.2 | false => .ok v
      a := fun c env σ => ((ev e).2 env σ).bind fun t => match (t.1 == c) with | true => (evs r).a c env t.2 | false => .ok (!c, t.2)
      isNil := false }
end
abbrev EX := Env' → Store → Out (Fl × Env' × Store)
def whileN (T : ET) (B : EX) : Nat → EX
  | 0, _, _ => .stuck
  | n + 1, env, σ => (T env σ).bind fun t => match t.1 with
      | true => (B env t.2).bind fun q => (match q.1 with
          | .ret v => .ok (.ret v, q.2.1, q.2.2)
          | _ => whileN T B n q.2.1 q.2.2)
      | false => .ok (.next, env, t.2)
def forN (k : Nat) (B : EX) : Nat → Int → EX
  | 0, _, env, σ => .ok (.next, env, σ)
  | n + 1, i, env, σ => (B (env.set k (some (.int i))) σ).bind fun q => match q.1 with
      | .ret v => .ok (.ret v, q.2.1, q.2.2)
      | _ => forN k B n (i + 1) q.2.1 q.2.2
def setAll : List Nat → List PV → Env' → Option Env'
  | [], [], env => some env
  | k :: ks, v :: vs, env => setAll ks vs (env.set k (some v))
  | _, _, _ => none
/-- the items of a tuple or of a list of two that is unpacked -/
def itemsP (σ : Store) : PV → Option (List PV)
  | .tup l => some l
  | .loc k => (σ[k]?)
  | _ => none
def exE (env : Env') (r : Out (PV × Store)) (f : PV → Store → Out (Fl × Env' × Store)) : Out (Fl × Env' × Store) := r.bind fun q => f q.1 q.2
mutual
def ex (N : Nat) : PS → EX
  | .bad => fun _ _ => .stuck
  | .asg k e => fun env σ => ((ev C e).1 env σ).bind fun r => .ok (.next, env.set k (some r.1), r.2)
  | .asgT ks e => fun env σ => ((ev C e).1 env σ).bind fun r => match (itemsP r.2 r.1).bind fun l => setAll ks l env with
      | some env' => .ok (.next, env', r.2)
      | none => .stuck
  | .put o i e => fun env σ => ((ev C e).1 env σ).bind fun r => ((ev C o).1 env r.2).bind fun q => ((ev C i).1 env q.2).bind fun t => match q.1, t.1 with
      | .loc j, .int k => (match t.2[j]? with
        | some l => if 0 ≤ k ∧ k < l.length then .ok (.next, env, t.2.set j (l.set k.toNat r.1)) else .stuck
        | none => .stuck)
      | _, _ => .stuck
  | .aug k o e => fun env σ => match env.getD k none with
      | some v => ((ev C e).1 env σ).bind fun r => (match binP o v r.1 with
        | some q => .ok (.next, env.set k (some q), r.2)
        | none => .stuck)
      | none => .stuck
  | .iff t a b => fun env σ => ((ev C t).2 env σ).bind fun r => match r.1 with | true => exs N a env r.2 | false => exs N b env r.2
  | .whl t b => fun env σ => whileN (ev C t).2 (exs N b) N env σ
  | .forr k lo hi b => fun env σ => ((ev C lo).1 env σ).bind fun r => ((ev C hi).1 env r.2).bind fun q => match r.1, q.1 with
      | .int x, .int y => if -1000000000 < x ∧ x < 1000000000 ∧ -1000000000 < y ∧ y < 1000000000 then forN k (exs N b) (y - x).toNat x env q.2 else .stuck
      | _, _ => .stuck
  | .ret e => fun env σ => ((ev C e).1 env σ).bind fun r => .ok (.ret r.1, env, r.2)
  | .raise _ es => fun env σ => ((evs C es).vals env σ).bind fun _ => .exc
  | .exp e => fun env σ => ((ev C e).1 env σ).bind fun r => match r.1 with | .none => .ok (.next, env, r.2) | _ => .stuck
  | .cont => fun env σ => .ok (.cont, env, σ)
def exs (N : Nat) : PSs → EX
  | .nil => fun env σ => .ok (.next, env, σ)
  | .cons s r => fun env σ => (ex N s env σ).bind fun q => match q.1 with
      | .next => exs N r q.2.1 q.2.2
      | f => .ok (f, q.2.1, q.2.2)
end
end
mutual
def noLoc : PV → Bool
  | .tup l => noLocs l
  | .list l => noLocs l
  | .loc _ => false
  | _ => true
def noLocs : List PV → Bool
  | [] => true
  | v :: r => noLoc v && noLocs r
end
mutual
/-- a value handed out of a def: the lists that the def has made are lists that stand -/
def freeze (n : Nat) (σ : Store) : PV → Option PV
  | .tup l => (freezes n σ l).map .tup
  | .loc k => if n ≤ k then (match σ[k]? with | some l => if noLocs l then some (.list l) else none | none => none) else none
  | .list l => if noLocs l then some (.list l) else none
  | v => some v
def freezes (n : Nat) (σ : Store) : List PV → Option (List PV)
  | [] => some []
  | v :: r => (freeze n σ v).bind fun w => (freezes n σ r).map (w :: ·)
end
structure FD where
  npar : Nat
  nloc : Nat
  code : PSs
def flP : Fl → PV
  | .ret v => v
  | _ => .none
def leaveP (n : Nat) (f : Fl) (σ : Store) : Out (PV × Store) :=
  match freeze n σ (flP f) with
  | some v => if (σ.take n).all noLocs then .ok (v, σ.take n) else .stuck
  | none => .stuck
/-- a def's body run over its arguments -/
def runFD (C : Nat → List PV → Store → Out (PV × Store)) (N : Nat) (d : FD) (args : List PV) (σ : Store) : Out (PV × Store) :=
  if args.length = d.npar then (exs C N d.code (args.map some ++ List.replicate (d.nloc - d.npar) none) σ).bind fun q => leaveP σ.length q.1 q.2.2 else .stuck
/-! the way from the program's text to the small language -/
structure CX where
  sc : Scope
  nm : List Str
  dn : List Str
  gc : List (Str × PV)
def isGlob (X : CX) (x : Str) : Bool := X.sc.names.lookup x == some .globalImplicit && !(x == ("__debug__" : Str))
def slot (X : CX) (x : Str) : Option Nat := match X.nm.findIdx? (· == x) with
  | some k => if X.sc.names.lookup x == some .local && !(x == ("__debug__" : Str)) && X.nm[k]? == some x then some k else none
  | none => none
def cN (X : CX) (x : Str) : Option PE := match slot X x with
  | some k => some (.var k)
  | none => if isGlob X x then (X.gc.lookup x).map .cst else none
def cO : Operator → Option BO
  | .Add => some .add | .Sub => some .sub | .Mult => some .mul | .FloorDiv => some .div | .Mod => some .mod | .Pow => some .pow
  | _ => none
def cC : CmpOp → CO
  | .Eq => .eq | .NotEq => .ne | .Lt => .lt | .LtE => .le | .Gt => .gt | .GtE => .ge | .Is => .is | .IsNot => .isnot | .In => .isin | .NotIn => .notin
def cBi (x : Str) : Option BI :=
  if x == ("len" : Str) then some .len else if x == ("int" : Str) then some .int else if x == ("str" : Str) then some .str
  else if x == ("abs" : Str) then some .abs else if x == ("max" : Str) then some .max else none
def cMe (x : Str) : Option ME :=
  if x == ("append" : Str) then some .append else if x == ("pop" : Str) then some .pop
  else if x == ("get" : Str) then some .get else if x == ("isalnum" : Str) then some .isalnum else none
def cL (f : Expr → Option PE) : List Expr → Option PEs
  | [] => some .nil
  | e :: r => (f e).bind fun a => (cL f r).map fun b => .cons a b
def cOpt (f : Expr → Option PE) : Option Expr → Option PE
  | none => some (.cst .none)
  | some e => f e
def isCall : Expr → Bool
  | .Call .. => true
  | _ => false
def isSlice : Expr → Bool
  | .Slice .. => true
  | _ => false
def cE (X : CX) : Nat → Expr → Option PE
  | 0, _ => none
  | n + 1, e => match e with
    | .Constant (.int i) _ _ => some (.cst (.int i))
    | .Constant (.str s) _ _ => if s.cps.toList.all (· < 128) then some (.cst (.str s.cps.toList)) else none
    | .Constant .none _ _ => some (.cst .none)
    | .Constant (.bool b) _ _ => some (.cst (.bool b))
    | .Name x _ => cN X x
    | .BinOp l op r _ => (cO op).bind fun o => (cE X n l).bind fun a => (cE X n r).map fun b => .bin o a b
    | .UnaryOp .USub a _ => (cE X n a).map .neg
    | .UnaryOp .Not a _ => (cE X n a).map .not
    | .BoolOp op vs _ => if vs.isEmpty then none else (cL (cE X n) vs).map fun es => .bool (op == .And) es
    | .Compare l [op] [r] _ => (cE X n l).bind fun a => (cE X n r).map fun b => .cmp (cC op) a b
    | .IfExp t a b _ => (cE X n t).bind fun t => (cE X n a).bind fun a => (cE X n b).map fun b => .ite t a b
    | .Call (.Name f _) args [] _ => if isGlob X f then (cL (cE X n) args).bind fun es => (match X.dn.findIdx? (· == f) with
        | some k => some (.call k es)
        | none => if args.isEmpty then none else (cBi f).map fun b => .bi b es) else none
    | .Call (.Attribute o m apos) args [] pos => if isCall o || !(apos.endLine == pos.line) || !decide (args.length < 20) then none else (cMe m).bind fun m => (cE X n o).bind fun o => (cL (cE X n) args).map fun es => .me m o es
    | .Subscript a (.Slice lo hi none _) _ => (cE X n a).bind fun a => (cOpt (cE X n) lo).bind fun lo => (cOpt (cE X n) hi).map fun hi => .cut a lo hi
    | .Subscript a i _ => if isSlice i then none else (cE X n a).bind fun a => (cE X n i).map fun i => .idx a i
    | .Tuple es _ _ => if es.length ≤ 1000 then (cL (cE X n) es).map .tup else none
    | .List es _ => if es.length ≤ 1000 then (cL (cE X n) es).map .lst else none
    | _ => none
def cSlots (X : CX) : List Expr → Option (List Nat)
  | [] => some []
  | .Name x _ :: r => (slot X x).bind fun k => (cSlots X r).map (k :: ·)
  | _ :: _ => none
def isDisplay : Expr → Bool
  | .Tuple .. => true
  | .List .. => true
  | _ => false
def cSL (f : Stmt → Option PS) : List Stmt → Option PSs
  | [] => some .nil
  | s :: r => (f s).bind fun a => (cSL f r).map fun b => .cons a b
def cS (X : CX) : Nat → Stmt → Option PS
  | 0, _ => none
  | n + 1, s => match s with
    | .Assign [.Name x _] e _ => (slot X x).bind fun k => (cE X n e).map fun e => .asg k e
    | .Assign [.Tuple ts _ _] e _ => if isDisplay e then none else (cSlots X ts).bind fun ks => (cE X n e).map fun e => .asgT ks e
    | .Assign [.Subscript o i _] e _ => if isSlice i then none else (cE X n o).bind fun o => (cE X n i).bind fun i => (cE X n e).map fun e => .put o i e
    | .AugAssign (.Name x _) op e _ => (slot X x).bind fun k => (cO op).bind fun o => if o == .add || o == .sub || o == .div then (cE X n e).map fun e => .aug k o e else none
    | .If t a b _ => (cE X n t).bind fun t => (cSL (cS X n) a).bind fun a => (cSL (cS X n) b).map fun b => .iff t a b
    | .While t b [] _ => (cE X n t).bind fun t => (cSL (cS X n) b).map fun b => .whl t b
    | .For (.Name x _) (.Call (.Name f _) args [] _) b [] _ => if isGlob X f && (f == ("range" : Str)) && (X.dn.findIdx? (· == f)).isNone then (slot X x).bind fun k => (match args with
        | [hi] => (cE X n hi).bind fun hi => (cSL (cS X n) b).map fun b => .forr k (.cst (.int 0)) hi b
        | [lo, hi] => (cE X n lo).bind fun lo => (cE X n hi).bind fun hi => (cSL (cS X n) b).map fun b => .forr k lo hi b
        | _ => none) else none
    | .Return (some e) _ => (cE X n e).map .ret
    | .Raise (some (.Call (.Name c _) args [] _)) none _ => if isGlob X c then (cL (cE X n) args).bind fun es =>
        (if c == ("LexFault" : Str) && decide (args.length = 2) then some (.raise 0 es) else if c == ("SyntaxFault" : Str) && decide (args.length = 1) then some (.raise 1 es) else none) else none
    | .Expr e _ => (cE X n e).map .exp
    | .Continue _ => some .cont
    | _ => none
def nmOf (sc : Scope) : List Str := (sc.names.filter fun x => x.2 == .local).map (·.1)
def defsOf (p : Program) : List (Str × Arguments × List Stmt × Scope) := p.main.body.filterMap fun
  | .FunctionDef n a b _ _ _ sc _ _ _ => some (n, a, b, sc)
  | _ => none
def ps : List (Str × Arguments × List Stmt × Scope) := defsOf PySem.Challenge.pw_no0268_01
def dnames : List Str := ps.map (·.1)
def consts : List (Str × PV) := [
  ("LETTERS", .str (chs "ABCDEFGHIJKLMNOPQRSTUVWXYZ")), ("DIGITS", .str (chs "0123456789")),
  ("DOTTED", .tup (([".EQ.", ".NE.", ".LT.", ".LE.", ".GT.", ".GE.", ".NOT.", ".AND.", ".OR.", ".EQV.", ".NEQV."] : List String).map fun x => .str (chs x))),
  ("TRUTHS", .tup [.str (chs ".TRUE."), .str (chs ".FALSE.")]), ("SIGNS", .str (chs "+-*/(),=:")), ("MOST_NAME", .int 6), ("MOST_DIGITS", .int 1000),
  ("PRIMARY", .int 10), ("BINDS", .tab 0), ("UNARY", .tab 1), ("PRIORITIES", .tab 2), ("EQUIVALENCE", .int 1), ("NEGATION", .int 4), ("RELATION", .int 5), ("SUM", .int 7), ("POWER", .int 9)]
def cxOf (sc : Scope) : CX := ⟨sc, nmOf sc, dnames, consts⟩
def compD (d : Str × Arguments × List Stmt × Scope) : Option FD := (cSL (cS (cxOf d.2.2.2) 40) d.2.2.1).map fun c => ⟨d.2.1.args.length, (nmOf d.2.2.2).length, c⟩
end Mine
namespace Mine
open PySem PySem.W PySem.Calls PyProof.Rows
/-- what stands under an address: an entry of the ledger that is no live list, or an object of the ground -/
def At (base : Heap) (news : List (Addr × Obj)) (ls : List Addr) (a : Addr) (o : Obj) : Prop := ((a, o) ∈ news ∧ a ∉ ls) ∨ base.get? a = some o
abbrev tupO (vs : List Value) (n : Nat) : Obj := { cls := .type "tuple", data := .seq vs.toArray n }
abbrev lstO (vs : List Value) (n : Nat) : Obj := { cls := .type "list", data := .seq vs.toArray n }
mutual
inductive RepV (base : Heap) (ta : Nat → Option Addr) (news : List (Addr × Obj)) (ls : List Addr) : Value → PV → Prop
  | none : RepV base ta news ls .none .none
  | bool (b : Bool) : RepV base ta news ls (.bool b) (.bool b)
  | int (i : Int) (t : Tok) : RepV base ta news ls (.int i t) (.int i)
  | str (x : Str) (t : Tok) {s : List Nat} : x.cps.toList = s → (∀ c ∈ s, c < 128) → RepV base ta news ls (.str x t) (.str s)
  | tup {a : Addr} {vs : List Value} {n : Nat} {ds : List PV} : At base news ls a (tupO vs n) → RepA base ta news ls vs ds → RepV base ta news ls (.ref a) (.tup ds)
  | list {a : Addr} {vs : List Value} {n : Nat} {ds : List PV} : At base news ls a (lstO vs n) → RepA base ta news ls vs ds → RepV base ta news ls (.ref a) (.list ds)
  | loc {a : Addr} {k : Nat} : ls[k]? = some a → RepV base ta news ls (.ref a) (.loc k)
  | tab {a : Addr} {k : Nat} : ta k = some a → RepV base ta news ls (.ref a) (.tab k)
inductive RepA (base : Heap) (ta : Nat → Option Addr) (news : List (Addr × Obj)) (ls : List Addr) : List Value → List PV → Prop
  | nil : RepA base ta news ls [] []
  | cons {v : Value} {vs : List Value} {d : PV} {ds : List PV} : RepV base ta news ls v d → RepA base ta news ls vs ds → RepA base ta news ls (v :: vs) (d :: ds)
end
structure Grow (news : List (Addr × Obj)) (ls : List Addr) (news' : List (Addr × Obj)) (ls' : List Addr) : Prop where
  keep : ∀ p ∈ news, p.1 ∉ ls → p ∈ news' ∧ p.1 ∉ ls'
  live : ∃ t, ls' = ls ++ t
theorem Grow.refl {news : List (Addr × Obj)} {ls : List Addr} : Grow news ls news ls := ⟨fun _ h n => ⟨h, n⟩, [], (List.append_nil _).symm⟩
theorem Grow.trans {n1 n2 n3 : List (Addr × Obj)} {l1 l2 l3 : List Addr} (x : Grow n1 l1 n2 l2) (y : Grow n2 l2 n3 l3) : Grow n1 l1 n3 l3 := by
  refine ⟨fun p h n => ?_, ?_⟩
  · obtain ⟨h2, n2⟩ := x.keep p h n
    exact y.keep p h2 n2
  · obtain ⟨t, rfl⟩ := x.live
    obtain ⟨u, rfl⟩ := y.live
    exact ⟨t ++ u, List.append_assoc ..⟩
section
variable {base : Heap} {ta : Nat → Option Addr} {news news' : List (Addr × Obj)} {ls ls' : List Addr}
theorem At.mono (g : Grow news ls news' ls') {a : Addr} {o : Obj} (h : At base news ls a o) : At base news' ls' a o := h.imp (fun h => g.keep _ h.1 h.2) id
mutual
theorem RepV.mono (g : Grow news ls news' ls') : ∀ {v : Value} {d : PV}, RepV base ta news ls v d → RepV base ta news' ls' v d
  | _, _, .none => .none
  | _, _, .bool b => .bool b
  | _, _, .int i t => .int i t
  | _, _, .str x t h k => .str x t h k
  | _, _, .tup h r => .tup (h.mono g) (RepA.mono g r)
  | _, _, .list h r => .list (h.mono g) (RepA.mono g r)
  | _, _, .loc h => .loc (by obtain ⟨t, rfl⟩ := g.live; rw [List.getElem?_append_left (List.getElem?_eq_some_iff.mp h).1]; exact h)
  | _, _, .tab h => .tab h
theorem RepA.mono (g : Grow news ls news' ls') : ∀ {vs : List Value} {ds : List PV}, RepA base ta news ls vs ds → RepA base ta news' ls' vs ds
  | _, _, .nil => .nil
  | _, _, .cons h r => .cons (RepV.mono g h) (RepA.mono g r)
end
theorem RepA.length {vs : List Value} {ds : List PV} (h : RepA base ta news ls vs ds) : vs.length = ds.length := by
  induction vs generalizing ds with
  | nil => cases h; rfl
  | cons v vs ih => cases h with | cons _ r => rw [List.length_cons, List.length_cons, ih r]
theorem RepA.get {vs : List Value} {ds : List PV} (h : RepA base ta news ls vs ds) {k : Nat} {d : PV} (hk : ds[k]? = some d) : ∃ v, vs[k]? = some v ∧ RepV base ta news ls v d := by
  induction vs generalizing ds k with
  | nil => cases h; simp at hk
  | cons v vs ih =>
    cases h with
    | cons h r =>
      cases k with
      | zero => simp at hk; subst hk; exact ⟨v, rfl, h⟩
      | succ k => exact ih r (by simpa using hk)
theorem RepA.append {vs ws : List Value} {ds es : List PV} (h : RepA base ta news ls vs ds) (k : RepA base ta news ls ws es) : RepA base ta news ls (vs ++ ws) (ds ++ es) := by
  induction vs generalizing ds with
  | nil => cases h; exact k
  | cons v vs ih => cases h with | cons h r => exact .cons h (ih r)
theorem RepA.set {vs : List Value} {ds : List PV} (h : RepA base ta news ls vs ds) {v : Value} {d : PV} (hv : RepV base ta news ls v d) (k : Nat) : RepA base ta news ls (vs.set k v) (ds.set k d) := by
  induction vs generalizing ds k with
  | nil => cases h; exact .nil
  | cons w vs ih =>
    cases h with
    | cons h r =>
      cases k with
      | zero => exact .cons hv r
      | succ k => exact .cons h (ih r k)
theorem RepA.dropLast {vs : List Value} {ds : List PV} (h : RepA base ta news ls vs ds) : RepA base ta news ls vs.dropLast ds.dropLast := by
  induction vs generalizing ds with
  | nil => cases h; exact .nil
  | cons w vs ih =>
    cases h with
    | cons h r =>
      cases r with
      | nil => exact .nil
      | cons h2 r2 => exact .cons h (ih (.cons h2 r2))
theorem RepA.last {vs : List Value} {ds : List PV} (h : RepA base ta news ls vs ds) {d : PV} (hd : ds.getLast? = some d) : ∃ v, vs.getLast? = some v ∧ RepV base ta news ls v d := by
  rw [List.getLast?_eq_getElem?] at hd
  obtain ⟨v, hv, r⟩ := h.get hd
  exact ⟨v, by rw [List.getLast?_eq_getElem?, h.length]; exact hv, r⟩
end
/-- the live lists -/
structure StoreOk (base : Heap) (ta : Nat → Option Addr) (news : List (Addr × Obj)) (ls : List Addr) (σ : Store) : Prop where
  len : ls.length = σ.length
  nodup : ls.Nodup
  off : ∀ a ∈ ls, base.get? a = none
  small : ∀ l ∈ σ, l.length ≤ szL
  at' : ∀ (k : Nat) (a : Addr) (l : List PV), ls[k]? = some a → σ[k]? = some l → ∃ vs n, (a, lstO vs n) ∈ news ∧ RepA base ta news ls vs l
end Mine
namespace Mine
open PySem PySem.W PySem.Calls PyProof.Rows
section
variable {prog : Program} {w : World} {A : Around} {E : Value → Shared → Prop} {s : Shared} {base : Heap} {ta : Nat → Option Addr} {n1 n2 news : List (Addr × Obj)} {l1 l2 ls : List Addr}
theorem str_eq_of {x y : Str} {a b : List Nat} (hx : x.cps.toList = a) (hy : y.cps.toList = b) : (x == y) = decide (a = b) := by
  subst hx hy
  rw [← toList_beq]
  by_cases h : x.cps.toList = y.cps.toList
  · rw [h]; simp
  · rw [decide_eq_false h]; simpa using h
theorem append_cps {x y : Str} : (x ++ y).cps.toList = x.cps.toList ++ y.cps.toList := by
  show (x.cps ++ y.cps).toList = _
  simp
theorem bin_ok {o : BO} {op : Operator} {p1 p2 p : PV} {v1 v2 : Value} {Q : Value → Shared → Prop} (ho : cO op = some o) (h1 : RepV base ta n1 l1 v1 p1) (h2 : RepV base ta n2 l2 v2 p2) (hp : binP o p1 p2 = some p)
    (h : ∀ v tk, RepV base ta news ls v p → Q v { s with toks := tk }) : wpAny (model prog w) A (binaryOp op v1 v2) Q E s := by
  cases op <;> simp only [cO, Option.some.injEq, reduceCtorEq] at ho <;> subst ho
  · -- Add
    cases h1 <;> cases h2 <;> simp only [binP, reduceCtorEq, Option.some.injEq] at hp
    · subst hp
      exact add_int (h _ _ (.int _ _))
    · rename_i x t a hx hxc y u b hy hyc
      split at hp
      · rename_i hl
        cases hp
        refine PyProof.Rows.add_str (fun t' tk => h _ _ (.str _ _ ?_ (fun c hc => (List.mem_append.mp hc).elim (hxc c) (hyc c)))) ?_
        · rw [append_cps, hx, hy]
        · have := sizeLine_eq
          show x.cps.size + y.cps.size ≤ sizeLine
          rw [← Array.length_toList, ← Array.length_toList, hx, hy]
          exact hl
      · cases hp
  · -- Sub
    cases h1 <;> cases h2 <;> simp only [binP, reduceCtorEq, Option.some.injEq] at hp
    subst hp
    exact sub_int (h _ _ (.int _ _))
  · -- Mult
    cases h1 <;> cases h2 <;> (try (simp only [binP, reduceCtorEq, Option.some.injEq] at hp))
    · split at hp
      · rename_i hl
        cases hp
        exact PyProof.Rows.mul_int (h _ _ (.int _ _)) (IntMulOk.of_left (intBits_le_64 (by omega) (by omega)))
      · cases hp
    · rename_i x t a hx hxc b u
      cases a with
      | nil => simp [binP] at hp
      | cons c a =>
        cases a with
        | cons _ _ => simp [binP] at hp
        | nil =>
          simp only [binP] at hp
          split at hp
          · rename_i hl
            cases hp
            have hxl : x.length = 1 := by
              show x.cps.size = 1
              rw [← Array.length_toList, hx]; rfl
            have hxe : x.cps = #[c] := by
              apply Array.toList_inj.mp
              rw [hx]
            have hc1 : ∀ d ∈ List.replicate b.toNat c, d < 128 := fun d hd => by
              rw [List.eq_of_mem_replicate hd]; exact hxc c (.head _)
            refine P.mul_str ?_ ?_ ?_ ?_
            · rw [decide_eq_false (by omega), decide_eq_false (by omega)]; rfl
            · intro h1 _
              rw [hxl]
              have : b ≥ 1 := by omega
              have h3 : (2 ^ 63 - 1 : Int) / b ≥ 1 := by
                apply (Int.le_ediv_iff_mul_le (by omega)).mpr
                omega
              omega
            · intro h1 _
              rw [hxl]
              unfold Builtin.Str.tooLong
              apply decide_eq_false
              have : b.toNat ≤ 1000 := by omega
              have := sizeLine_eq
              omega
            · by_cases h1 : b < 1
              · rw [if_pos h1]
                refine ⟨by decide, h _ _ (.str _ _ ?_ hc1)⟩
                have : b.toNat = 0 := by omega
                rw [this]; rfl
              · rw [if_neg h1]
                by_cases h2 : b = 1
                · subst h2
                  exact h _ _ (.str _ _ (by rw [hx]; rfl) hc1)
                · rw [if_neg (by simp [h2, hxl])]
                  have key : ∀ (k : Nat) (acc : Array Nat), (List.foldl (fun x1 x2 => x1 ++ x2) acc (List.replicate k x.cps)).toList = acc.toList ++ List.replicate k c := by
                    intro k
                    induction k with
                    | zero => intro acc; simp
                    | succ k ih =>
                      intro acc
                      rw [List.replicate_succ, List.foldl_cons, ih, hxe]
                      simp [List.replicate_succ]
                  refine ⟨?_, h _ _ (.str _ _ ?_ hc1)⟩
                  · show (List.foldl (fun x1 x2 => x1 ++ x2) #[] (List.replicate b.toNat x.cps)).size ≤ sizeLine
                    rw [← Array.length_toList, key]
                    have := sizeLine_eq
                    simp
                    omega
                  · show (List.foldl (fun x1 x2 => x1 ++ x2) #[] (List.replicate b.toNat x.cps)).toList = _
                    rw [key]; rfl
          · cases hp
  · -- Mod
    cases h1 <;> cases h2 <;> simp only [binP, reduceCtorEq, Option.some.injEq] at hp
    split at hp
    · cases hp
      exact PyProof.Rows.mod_int (by omega) (h _ _ (.int _ _))
    · cases hp
  · -- Pow
    cases h1 <;> cases h2 <;> simp only [binP, reduceCtorEq, Option.some.injEq] at hp
    split at hp
    · rename_i hl
      cases hp
      obtain ⟨rfl, rfl⟩ := hl
      refine PyProof.Rows.pow_int (by decide) (by decide +kernel) ?_
      have e : (10 : Int) ^ (12 : Int).toNat = 1000000000000 := by decide
      rw [e]
      exact h _ _ (.int _ _)
    · cases hp
  · -- FloorDiv
    cases h1 <;> cases h2 <;> simp only [binP, reduceCtorEq, Option.some.injEq] at hp
    split at hp
    · rename_i hl
      cases hp
      subst hl
      exact PyProof.Rows.floordiv_int (by decide) (h _ _ (.int _ _))
    · cases hp
theorem str_mk {x : Str} {a : List Nat} (hx : x.cps.toList = a) : x = ⟨a.toArray⟩ := by
  cases x; subst hx; simp
mutual
def toD : PV → PyData
  | .none => .none
  | .bool b => .bool b
  | .int i => .int i
  | .str s => .str ⟨s.toArray⟩
  | .tup l => .tuple (toDs l)
  | .list l => .list (toDs l)
  | _ => .none
def toDs : List PV → List PyData
  | [] => []
  | d :: ds => toD d :: toDs ds
end
mutual
def plainP : PV → Bool
  | .tup l => plainPs l
  | .list l => plainPs l
  | .loc _ => false
  | .tab _ => false
  | _ => true
def plainPs : List PV → Bool
  | [] => true
  | d :: ds => plainP d && plainPs ds
end
mutual
theorem reads_of {h : Heap} (hg : ∀ a o, At base news ls a o → h.get? a = some o) : ∀ {v : Value} {d : PV}, RepV base ta news ls v d → plainP d = true → ∃ as, Reads h v (toD d) as
  | _, _, .none, _ => ⟨_, Reads.none⟩
  | _, _, .bool b, _ => ⟨_, Reads.bool b⟩
  | _, _, .int i t, _ => ⟨_, Reads.int i t⟩
  | _, _, .str x t e _, _ => by rw [toD, ← str_mk e]; exact ⟨_, Reads.str x t⟩
  | _, _, .tup ha r, hp => by
    obtain ⟨as, q⟩ := reads_all hg r (by simpa [plainP] using hp)
    rw [toD]
    exact ⟨as, reads_tuple_at (hg _ _ ha) rfl rfl (by simpa using q)⟩
  | _, _, .list ha r, hp => by
    obtain ⟨as, q⟩ := reads_all hg r (by simpa [plainP] using hp)
    rw [toD]
    exact ⟨_, reads_list_at (hg _ _ ha) rfl rfl (by simpa using q)⟩
  | _, _, .loc _, hp => by simp [plainP] at hp
  | _, _, .tab _, hp => by simp [plainP] at hp
theorem reads_all {h : Heap} (hg : ∀ a o, At base news ls a o → h.get? a = some o) : ∀ {vs : List Value} {ds : List PV}, RepA base ta news ls vs ds → plainPs ds = true → ∃ as, ReadsAll h vs (toDs ds) as
  | _, _, .nil, _ => ⟨_, ReadsAll.nil⟩
  | _, _, .cons hd r, hp => by
    simp only [plainPs, Bool.and_eq_true] at hp
    obtain ⟨as, q⟩ := reads_of hg hd hp.1
    obtain ⟨bs, p⟩ := reads_all hg r hp.2
    rw [toDs]
    exact ⟨_, ReadsAll.cons q p⟩
end
mutual
theorem lay_of : ∀ {v : Value} {d : PV}, RepV base ta news ls v d → plainP d = true → (toD d).canLay0 = true
  | _, _, .none, _ => rfl
  | _, _, .bool b, _ => rfl
  | _, _, .int i t, _ => rfl
  | _, _, .str x t (s := a) e hc, _ => by
    show PyData.strOk ⟨a.toArray⟩ = true
    unfold PyData.strOk
    rw [Array.all_eq_true_iff_forall_mem]
    intro c hcm
    have := hc c (by simpa using hcm)
    exact decide_eq_true (by omega)
  | _, _, .tup ha r, hp => by
    rw [toD, PyData.canLay0]
    exact lays_of r (by simpa [plainP] using hp)
  | _, _, .list ha r, hp => by
    rw [toD, PyData.canLay0]
    exact lays_of r (by simpa [plainP] using hp)
  | _, _, .loc _, hp => by simp [plainP] at hp
  | _, _, .tab _, hp => by simp [plainP] at hp
theorem lays_of : ∀ {vs : List Value} {ds : List PV}, RepA base ta news ls vs ds → plainPs ds = true → PyData.canLayAll0 (toDs ds) = true
  | _, _, .nil, _ => rfl
  | _, _, .cons hd r, hp => by
    simp only [plainPs, Bool.and_eq_true] at hp
    rw [toDs, PyData.canLayAll0, lay_of hd hp.1, lays_of r hp.2]
    rfl
end
theorem texts_plain : ∀ {l : List PV}, textsOnly l = true → plainPs l = true ∧ PyData.depthAll (toDs l) = 0
  | [], _ => ⟨rfl, rfl⟩
  | .str s :: r, h => by
    obtain ⟨p, q⟩ := texts_plain (l := r) h
    simp [plainPs, plainP, toDs, toD, PyData.depthAll, PyData.depth, p, q]
  | .none :: _, h | .bool _ :: _, h | .int _ :: _, h | .tup _ :: _, h | .list _ :: _, h | .loc _ :: _, h | .tab _ :: _, h => by simp [textsOnly] at h
theorem inTup_any {a : List Nat} : ∀ {l : List PV} {b : Bool}, textsOnly l = true → inTup a l = some b → ((toDs l).any fun y => PyData.eqv y (.str ⟨a.toArray⟩)) = b
  | [], b, _, h => by simp only [inTup, Option.some.injEq] at h; subst h; rfl
  | .str t :: r, b, ht, h => by
    have ih := inTup_any (a := a) (l := r) (b := b) ht
    simp only [inTup] at h
    simp only [toDs, toD, List.any_cons, PyData.eqv]
    split at h
    · rename_i e
      cases h
      subst e
      simp
    · rename_i e
      rw [ih h]
      have : (({ cps := t.toArray } : Str) == { cps := a.toArray }) = false := by
        rw [beq_eq_false_iff_ne]
        intro q
        apply e
        have := congrArg (fun z => z.cps.toList) q
        simpa using this.symm
      rw [this]; rfl
  | .none :: _, _, h, _ | .bool _ :: _, _, h, _ | .int _ :: _, _, h, _ | .tup _ :: _, _, h, _ | .list _ :: _, _, h, _ | .loc _ :: _, _, h, _ | .tab _ :: _, _, h, _ => by simp [textsOnly] at h
theorem ibeq (a b : Int) : (a == b) = decide (a = b) := by by_cases h : a = b <;> simp [h]
theorem cmp_ok {op : CmpOp} {p1 p2 : PV} {b : Bool} {v1 v2 : Value} {Q : Value → Shared → Prop} (hg : ∀ a o, At base news ls a o → s.heap.get? a = some o) (hu : A.units + 65 < cLine)
    (h1 : RepV base ta news ls v1 p1) (h2 : RepV base ta news ls v2 p2) (hp : cmpP (cC op) p1 p2 = some b)
    (h : Q (.bool b) s) : wpAny (model prog w) A (compareOp op v1 v2) Q E s := by
  cases op with
  | Eq =>
    cases h1 <;> cases h2 <;> simp only [cC, cmpP, Option.some.injEq, reduceCtorEq] at hp
    · subst hp; refine eq_int ?_; rw [ibeq]; exact h
    · rename_i x t a hx _ y u b' hy _
      subst hp; refine PyProof.Rows.eq_str ?_; rw [str_eq_of hx hy]; exact h
  | NotEq =>
    cases h1 <;> cases h2 <;> simp only [cC, cmpP, Option.some.injEq, reduceCtorEq] at hp
    · subst hp; refine ne_int ?_; rw [bne, ibeq]; exact h
    · rename_i x t a hx _ y u b' hy _
      subst hp; refine PyProof.Rows.ne_str ?_; rw [bne, str_eq_of hx hy]; exact h
  | Lt =>
    cases h1 <;> cases h2 <;> simp only [cC, cmpP, Option.some.injEq, reduceCtorEq] at hp
    subst hp; exact lt_int h
  | LtE =>
    cases h1 <;> cases h2 <;> simp only [cC, cmpP, Option.some.injEq, reduceCtorEq] at hp
    subst hp; exact le_int h
  | Gt =>
    cases h1 <;> cases h2 <;> simp only [cC, cmpP, Option.some.injEq, reduceCtorEq] at hp
    subst hp; exact gt_int h
  | GtE =>
    cases h1 <;> cases h2 <;> simp only [cC, cmpP, Option.some.injEq, reduceCtorEq] at hp
    subst hp; exact ge_int h
  | Is =>
    cases h1 <;> cases h2 <;> simp only [cC, cmpP, Option.some.injEq, reduceCtorEq] at hp
    · subst hp; exact is_none_none h
    · subst hp; exact PyProof.Rows.is_none_ne (by intro e; cases e) h
  | IsNot =>
    cases h1 <;> cases h2 <;> simp only [cC, cmpP, Option.some.injEq, reduceCtorEq] at hp
    · subst hp; exact isnot_none_none h
    · subst hp; exact PyProof.Rows.isnot_none_ne (by intro e; cases e) h
  | In =>
    cases h2 with
    | str y u hy hyc =>
      rename_i ys
      cases h1 <;> simp only [cC, cmpP, reduceCtorEq] at hp
      rename_i x t a hx hxc
      cases a with
      | nil => simp at hp
      | cons c a =>
        cases a with
        | cons _ _ => simp at hp
        | nil =>
          simp only [Option.some.injEq] at hp
          have e := str_mk hx
          subst e
          refine PyProof.Rows.in_str ?_
          have := StrLaws.found_one y c
          rw [show (⟨[c].toArray⟩ : Str) = ⟨#[c]⟩ from rfl, this, hy, ← List.contains_eq_mem]
          rw [hp]; exact h
    | tup ha r =>
      rename_i a' vs n l
      cases h1 <;> simp only [cC, cmpP, reduceCtorEq] at hp
      rename_i x t a hx hxc
      split at hp
      · rename_i ht
        obtain ⟨pl, dp⟩ := texts_plain ht
        obtain ⟨as, rc⟩ := reads_of hg (.tup ha r) (by simpa [plainP] using pl)
        obtain ⟨bs, rx⟩ := reads_of (base := base) (ta := ta) hg (.str x t hx hxc) rfl
        refine SeqAt.in_tuple_reads (by simpa [toD] using rc) rx (lays_of r pl) (lay_of (base := base) (ta := ta) (news := news) (ls := ls) (.str x t hx hxc) rfl) ?_ ?_
        · simp only [dp, toD, PyData.depth]; omega
        · rw [toD, inTup_any ht hp]; exact h
      · cases hp
    | _ => cases h1 <;> simp [cC, cmpP] at hp
  | NotIn =>
    cases h2 with
    | str y u hy hyc =>
      rename_i ys
      cases h1 <;> simp only [cC, cmpP, reduceCtorEq] at hp
      rename_i x t a hx hxc
      cases a with
      | nil => simp at hp
      | cons c a =>
        cases a with
        | cons _ _ => simp at hp
        | nil =>
          simp only [Option.some.injEq] at hp
          have e := str_mk hx
          subst e
          refine PyProof.Rows.notIn_str ?_
          have := StrLaws.found_one y c
          rw [show (⟨[c].toArray⟩ : Str) = ⟨#[c]⟩ from rfl, this, hy, ← List.contains_eq_mem]
          rw [hp]; exact h
    | _ => cases h1 <;> simp [cC, cmpP] at hp
end
end Mine
namespace Mine
open PySem PySem.W PySem.Calls PyProof.Rows
/-- what is fixed for the whole run -/
structure GC where
  prog : Program
  w : World
  KF : Frag
  p : Program
  loose : List Str
  mean : ExcName → Option Value
  mg : Str → Option Value
  mb : Str → Option Value
  base : Heap
  ta : Nat → Option Addr
  s₀ : Shared
  fa : Nat → Addr
  ca : Nat → Addr
def GC.st (Γ : GC) (h : Heap) (tk : Nat) : Shared := { Γ.s₀ with heap := h, toks := tk }
def biName : BI → Str
  | .len => "len" | .int => "int" | .str => "str" | .abs => "abs" | .max => "max"
structure GC.Ok (Γ : GC) : Prop where
  X : Γ.KF.In Γ.base
  T : Top Γ.p Γ.loose Γ.mean Γ.mg Γ.mb Γ.base
  gconst : ∀ x pv, consts.lookup x = some pv → ∃ v, nsIn Γ.KF mainGlobals x = some (some v) ∧ RepV Γ.base Γ.ta [] [] v pv
  defs : ∀ x k, dnames.findIdx? (· == x) = some k → nsIn Γ.KF mainGlobals x = some (some (.ref (Γ.fa k)))
  defk : ∀ x k, dnames.findIdx? (· == x) = some k → keepIn Γ.KF (.ref (Γ.fa k)) = true
  nobi : ∀ b, nsIn Γ.KF mainGlobals (biName b) = some none
  norange : nsIn Γ.KF mainGlobals "range" = some none
  tabs : ∀ (k : Nat) a s, Γ.ta k = some a → (a == sysModules) = false ∧ ∃ es n, Γ.KF.lookup a = some ⟨.type "dict", none, .dict es n, #[]⟩ ∧ KeysLit Γ.w.params es.toList ∧
    (match tabP k s with
     | some pv => ∃ v, nsIn Γ.KF a ⟨s.toArray⟩ = some (some v) ∧ RepV Γ.base Γ.ta [] [] v pv
     | none => nsIn Γ.KF a ⟨s.toArray⟩ = some none)
  excs : ∀ i, i < 2 → nsIn Γ.KF mainGlobals (if i = 0 then "LexFault" else "SyntaxFault") = some (some (.ref (Γ.ca i)))
/-- an exception that has just been made -/
structure Fresh (h h' : Heap) (e : Addr) (cls : Value) : Prop where
  keeps : ∀ b o, h.get? b = some o → h'.get? b = some o
  new : h.get? e = none
  there : ∃ oe vs a0, h'.get? e = some oe ∧ oe.cls = cls ∧ oe.data = .fields vs ∧ vs[0]? = some a0 ∧ vs[1]? = some .none
/-- what is fixed for a call of one def -/
structure FC where
  cn : Str
  cs : Scope
  L : Addr
  a : Addr
  cd : Value
  outer : List Env
  g : Heap
  dp : Nat
  un : Nat
  gd : Option (List Code)
  A₀ : Around
  nm : List Str
  news₀ : List (Addr × Obj)
  ls₀ : List Addr
  E : Value → Shared → Prop
  may : Prop
  own : Prop
  cells : List (Str × Addr)
def FC.env (c : FC) : Env := { envOf c.cn c.cs c.L c.a c.cd with cells := c.cells }
def FC.A (c : FC) : Around := { handled := none, depth := c.dp, frames := some (c.env :: c.outer), guards := c.gd, units := c.un }
def GC.isFault (Γ : GC) (cls : Value) : Prop := ∃ i, i < 2 ∧ cls = .ref (Γ.ca i)
def ExcF (Γ : GC) (c : FC) (e : Addr) (h : Heap) : Prop :=
  ∃ cls news' ls', Grow c.news₀ c.ls₀ news' ls' ∧ Γ.isFault cls ∧
    ((c.own ∧ ∃ h₁ m, Fr c.g c.L h₁ m ∧ News c.g c.L h₁ news' ∧ Fresh h₁ h e cls) ∨
     (∃ g₂ m, Fr c.g c.L g₂ m ∧ RaisedSN Γ.base g₂ (c.env :: c.outer) e cls news' h ∧ g₂.UpToSlots h))
structure FC.Ok (Γ : GC) (c : FC) : Prop where
  B : Below c.A₀ Γ.base c.outer c.g
  kind : c.cs.kind = .function
  nmnd : c.nm.Nodup
  hE : PassesOwn (model Γ.prog Γ.w) c.A c.env c.E
  hX : c.may → ∀ e h tk, ExcF Γ c e h → c.E (.ref e) (Γ.st h tk)
  room : c.un + 100 < cLine
  roomD : c.dp + 10 < recursionLimit
structure Inv (Γ : GC) (c : FC) (h : Heap) (env : Env') (σ : Store) (news : List (Addr × Obj)) (ls : List Addr) : Prop where
  fr : ∃ m, Fr c.g c.L h m ∧ ∀ (k : Nat) x pv, c.nm[k]? = some x → env.getD k none = some pv → ∃ v, m x = some v ∧ RepV Γ.base Γ.ta news ls v pv
  N : News c.g c.L h news
  S : StoreOk Γ.base Γ.ta news ls σ
  G : Grow c.news₀ c.ls₀ news ls
/-- what comes out is worth what the small language says -/
def Post {ρ α : Type} (R : List (Addr × Obj) → List Addr → ρ → α → Prop) (Γ : GC) (c : FC) (env : Env') (news : List (Addr × Obj)) (ls : List Addr) (Q : ρ → Shared → Prop) : Out (α × Store) → Prop
  | .ok r => ∀ v h' tk' news' ls', Inv Γ c h' env r.2 news' ls' → R news' ls' v r.1 → Grow news ls news' ls' → Q v (Γ.st h' tk')
  | .exc => c.may
  | .stuck => False
abbrev RV (Γ : GC) : List (Addr × Obj) → List Addr → Value → PV → Prop := fun n l v d => RepV Γ.base Γ.ta n l v d
abbrev RL (Γ : GC) : List (Addr × Obj) → List Addr → List Value → List PV → Prop := fun n l v d => RepA Γ.base Γ.ta n l v d
abbrev RB : List (Addr × Obj) → List Addr → Bool → Bool → Prop := fun _ _ v d => v = d
def SG {ρ α : Type} (R : List (Addr × Obj) → List Addr → ρ → α → Prop) (Γ : GC) (c : FC) (t : Sem ρ) (f : Env' → Store → Out (α × Store)) : Prop :=
  ∀ env σ h tk news ls Q, Inv Γ c h env σ news ls → Post R Γ c env news ls Q (f env σ) → wpAny (model Γ.prog Γ.w) c.A t Q c.E (Γ.st h tk)
abbrev SE (Γ : GC) (c : FC) (t : Sem Value) (f : EV) : Prop := SG (RV Γ) Γ c t f
abbrev SB' (Γ : GC) (c : FC) (t : Sem Bool) (f : ET) : Prop := SG RB Γ c t f
abbrev SL (Γ : GC) (c : FC) (t : Sem (List Value)) (f : Env' → Store → Out (List PV × Store)) : Prop := SG (RL Γ) Γ c t f
/-- what a call leaves: all that stood outside the ledger stands, and what is new in the ledger is new -/
structure Apart (h : Heap) (news : List (Addr × Obj)) (h' : Heap) (news' : List (Addr × Obj)) : Prop where
  keep : ∀ b o, h.get? b = some o → b ∉ news.map (·.1) → h'.get? b = some o
  new : ∀ p ∈ news', p.1 ∈ news.map (·.1) ∨ h.get? p.1 = none
def PostS (Γ : GC) (c : FC) (env : Env') (news : List (Addr × Obj)) (ls : List Addr) (h : Heap) (Q : Value → Shared → Prop) : Out (PV × Store) → Prop
  | .ok r => ∀ v h' tk' news' ls', Inv Γ c h' env r.2 news' ls' → RepV Γ.base Γ.ta news' ls' v r.1 → Grow news ls news' ls' → Apart h news h' news' → Q v (Γ.st h' tk')
  | .exc => c.may
  | .stuck => False
theorem Post.toS {Γ : GC} {c : FC} {env : Env'} {news : List (Addr × Obj)} {ls : List Addr} {h : Heap} {Q : Value → Shared → Prop} {o : Out (PV × Store)} (hp : Post (RV Γ) Γ c env news ls Q o) : PostS Γ c env news ls h Q o := by
  cases o with
  | ok r => exact fun v h' tk' n l I r g _ => hp v h' tk' n l I r g
  | exc => exact hp
  | stuck => exact hp
def CallOk (Γ : GC) (c : FC) (C : Nat → List PV → Store → Out (PV × Store)) : Prop :=
  ∀ f args env σ h tk news ls vs Q, Inv Γ c h env σ news ls → RepA Γ.base Γ.ta news ls vs args → PostS Γ c env news ls h Q (C f args σ) →
    wpAny (model Γ.prog Γ.w) c.A (call (.ref (Γ.fa f)) vs) Q c.E (Γ.st h tk)
section
variable {Γ : GC} {c : FC} {C : Nat → List PV → Store → Out (PV × Store)}
theorem ldx {M : Model} {A : Around} {E : Value → Shared → Prop} {s : Shared} {g : Heap} {m : Str → Option Value} {x : Str} {pos : Pos} {v : Value} {Q : Value → Shared → Prop} (F : Fr g c.L s.heap m) (hv : m x = some v) (h : Q v s) (hk : c.cs.kind = .function)
    (hl : c.cs.names.lookup x = some .local) (hd : (x == ("__debug__" : Str)) = false) : wpAny M A (eval (.Name x pos) c.env) Q E s := wpAny_Name (wpAny_loadName_local (env := c.env) hk hl F.ns hv h) hd
theorem ldnx {M : Model} {A : Around} {E : Value → Shared → Prop} {s : Shared} {g : Heap} {m : Str → Option Value} {x : Str} {v : Value} {Q : Value → Shared → Prop} (F : Fr g c.L s.heap m) (hv : m x = some v) (h : Q v s) (hk : c.cs.kind = .function)
    (hl : c.cs.names.lookup x = some .local) : wpAny M A (loadName c.env x) Q E s := wpAny_loadName_local (env := c.env) hk hl F.ns hv h
theorem name_Kx {M : Model} {A : Around} {E : Value → Shared → Prop} {s : Shared} {K : Frag} {mg mb : Str → Option Value} {p : Program} {loose : List Str} {g : Heap} {L : Addr} {m : Str → Option Value} {x : Str} {pos : Pos} {v : Value} {Q : Value → Shared → Prop} (F : Fr g L s.heap m) (X : K.In g) (T : TopRead p loose mg mb g)
    (e : nsIn K mainGlobals x = some (some v)) (h : Q v s) (hk : c.cs.kind = .function) (hx : c.cs.names.lookup x = some .globalImplicit) (hd : (x == ("__debug__" : Str)) = false) : wpAny M A (eval (.Name x pos) c.env) Q E s :=
  nameG_K F X T e h rfl hk hx hd
theorem name_Bx {M : Model} {A : Around} {E : Value → Shared → Prop} {s : Shared} {K : Frag} {mg mb : Str → Option Value} {p : Program} {loose : List Str} {g : Heap} {L : Addr} {m : Str → Option Value} {x : Str} {pos : Pos} {v : Value} {Q : Value → Shared → Prop} (F : Fr g L s.heap m) (X : K.In g) (T : TopRead p loose mg mb g)
    (e : nsIn K mainGlobals x = some none) (hv : bootBuiltins x = some v) (hn : x ≠ "__name__") (h : Q v s) (hk : c.cs.kind = .function) (hx : c.cs.names.lookup x = some .globalImplicit) (hd : (x == ("__debug__" : Str)) = false) : wpAny M A (eval (.Name x pos) c.env) Q E s :=
  Calls.Name_function_global hk hx (Calls.loadGlobal_builtin (env := c.env) (T.g.keeps F.keep) (mg_none_of X T.g e) (T.b.keeps F.keep) ((T.builtins x hn).trans hv) h) hd
theorem Inv.get (gok : Γ.Ok) (cok : c.Ok Γ) {h : Heap} {env : Env'} {σ : Store} {news : List (Addr × Obj)} {ls : List Addr} (I : Inv Γ c h env σ news ls) :
    ∀ a o, At Γ.base news ls a o → h.get? a = some o := by
  intro a o ha
  rcases ha with ⟨hm, _⟩ | hb
  · exact (I.N _ hm).1
  · obtain ⟨m, F, _⟩ := I.fr
    exact F.keep _ _ (cok.B.stays _ _ hb)
/-- the frame and the ledger stand over a heap in which nothing old has changed -/
theorem Inv.keeps {h h' : Heap} {env : Env'} {σ : Store} {news : List (Addr × Obj)} {ls : List Addr} (I : Inv Γ c h env σ news ls) (k : ∀ b o, h.get? b = some o → h'.get? b = some o) :
    Inv Γ c h' env σ news ls := by
  obtain ⟨⟨m, F, hm⟩, N, S, G⟩ := I
  exact ⟨⟨m, F.grownK k, hm⟩, N.grown k, S, G⟩
/-- a fact over no ledger holds over each -/
theorem grow_nil {news : List (Addr × Obj)} {ls : List Addr} : Grow [] [] news ls := ⟨fun _ h => (nomatch h), ls, rfl⟩
section
variable {ρ α ρ' β : Type} {R : List (Addr × Obj) → List Addr → ρ → α → Prop} {R' : List (Addr × Obj) → List Addr → ρ' → β → Prop} {env : Env'} {news n' : List (Addr × Obj)} {ls l' : List Addr}
theorem Post.grow {Q : ρ → Shared → Prop} {o : Out (α × Store)} (g : Grow news ls n' l') (hp : Post R Γ c env news ls Q o) : Post R Γ c env n' l' Q o := by
  cases o with
  | ok r => exact fun v h' tk' n2 l2 I r g2 => hp v h' tk' n2 l2 I r (g.trans g2)
  | exc => exact hp
  | stuck => exact hp
theorem Post.bind {Q : ρ → Shared → Prop} {Q' : ρ' → Shared → Prop} {o : Out (β × Store)} {f : β × Store → Out (α × Store)} (hp : Post R Γ c env news ls Q (o.bind f))
    (k : ∀ r v h' tk' n' l', Inv Γ c h' env r.2 n' l' → R' n' l' v r.1 → Grow news ls n' l' → Post R Γ c env n' l' Q (f r) → Q' v (Γ.st h' tk')) : Post R' Γ c env news ls Q' o := by
  cases o with
  | ok r => exact fun v h' tk' n2 l2 I rr g => k r v h' tk' n2 l2 I rr g (Post.grow g hp)
  | exc => exact hp
  | stuck => exact hp
theorem Post.lift {Q : ρ → Shared → Prop} {σ : Store} {o : Option α} (hp : Post R Γ c env news ls Q (liftO σ o)) : ∃ a, o = some a ∧ Post R Γ c env news ls Q (.ok (a, σ)) := by
  cases o with
  | some a => exact ⟨a, rfl, hp⟩
  | none => exact hp.elim
end
theorem se_cst_none {env' : Env} : SE Γ c (eval (.Constant .none k pos) env') (ev C (.cst .none)).1 := by
  intro env σ h tk news ls Q I hp
  exact wpAny_Constant_none (hp _ _ _ _ _ I .none Grow.refl)
theorem se_cst_bool {env' : Env} {b : Bool} : SE Γ c (eval (.Constant (.bool b) k pos) env') (ev C (.cst (.bool b))).1 := by
  intro env σ h tk news ls Q I hp
  exact wpAny_Constant_bool (hp _ _ _ _ _ I (.bool b) Grow.refl)
theorem se_cst_int {env' : Env} {i : Int} : SE Γ c (eval (.Constant (.int i) k pos) env') (ev C (.cst (.int i))).1 := by
  intro env σ h tk news ls Q I hp
  exact wpAny_Constant_int (hp _ _ _ _ _ I (.int i _) Grow.refl)
theorem se_cst_str {env' : Env} {x : Str} (hx : x.cps.toList.all (· < 128) = true) : SE Γ c (eval (.Constant (.str x) k pos) env') (ev C (.cst (.str x.cps.toList))).1 := by
  intro env σ h tk news ls Q I hp
  exact wpAny_Constant_str (hp _ _ _ _ _ I (.str x _ rfl (fun d hd => by simpa using List.all_eq_true.mp hx d hd)) Grow.refl)
theorem se_var (gok : Γ.Ok) (cok : c.Ok Γ) {X : CX} (hX : X.sc = c.cs ∧ X.nm = c.nm) {x : Str} {k : Nat} (hk : slot X x = some k) : SE Γ c (eval (.Name x pos) c.env) (ev C (.var k)).1 := by
  intro env σ h tk news ls Q I hp
  obtain ⟨⟨m, F, hm⟩, N, S, G⟩ := id I
  unfold slot at hk
  split at hk
  · rename_i k' _
    split at hk
    · rename_i hc
      cases hk
      simp only [Bool.and_eq_true, beq_iff_eq, Bool.not_eq_true'] at hc
      obtain ⟨⟨hl, hd⟩, hn⟩ := hc
      rw [hX.1] at hl
      rw [hX.2] at hn
      cases he : env.getD k none with
      | none =>
        simp only [ev, wV, he, liftO, Post] at hp
      | some pv =>
        simp only [ev, wV, he, liftO] at hp
        obtain ⟨v, hv, r⟩ := hm k x pv hn he
        exact ldx (s := Γ.st h tk) F hv (hp _ _ _ _ _ I r Grow.refl) cok.kind hl hd
    · cases hk
  · cases hk
theorem se_glob (gok : Γ.Ok) (cok : c.Ok Γ) {x : Str} {pv : PV} (hl : c.cs.names.lookup x = some .globalImplicit) (hd : (x == ("__debug__" : Str)) = false) (hc : consts.lookup x = some pv) :
    SE Γ c (eval (.Name x pos) c.env) (ev C (.cst pv)).1 := by
  intro env σ h tk news ls Q I hp
  obtain ⟨⟨m, F, hm⟩, N, S, G⟩ := id I
  obtain ⟨v, hv, r⟩ := gok.gconst x pv hc
  exact name_Kx (s := Γ.st h tk) F (gok.X.keeps cok.B.stays) (topRead_of (gok.T.keeps cok.B.stays)) hv (hp _ _ _ _ _ I (r.mono grow_nil) Grow.refl) cok.kind hl hd
theorem se_bin (gok : Γ.Ok) (cok : c.Ok Γ) {l r : Expr} {op : Operator} {o : BO} {pos : Pos} {fl fr : EV} (ho : cO op = some o) (hl : SE Γ c (eval l c.env) fl) (hr : SE Γ c (eval r c.env) fr) :
    SE Γ c (eval (.BinOp l op r pos) c.env) (fun env σ => (fl env σ).bind fun r => (fr env r.2).bind fun q => liftO q.2 (binP o r.1 q.1)) := by
  intro env σ h tk news ls Q I hp
  refine wpAny_BinOp (hl env σ h tk news ls _ I (Post.bind hp fun r v h1 tk1 n1 l1 I1 R1 g1 hp1 => ?_))
  refine hr env r.2 h1 tk1 n1 l1 _ I1 (Post.bind hp1 fun q v2 h2 tk2 n2 l2 I2 R2 g2 hp2 => ?_)
  obtain ⟨pv, hb, hp3⟩ := Post.lift hp2
  exact bin_ok (s := Γ.st h2 tk2) ho (R1.mono g2) R2 hb fun v tk' rv => hp3 v h2 tk' n2 l2 I2 rv Grow.refl
theorem se_cmp (gok : Γ.Ok) (cok : c.Ok Γ) {l r : Expr} {op : CmpOp} {pos : Pos} {fl fr : EV} (hm : behindInMarks op r = false) (hl : SE Γ c (eval l c.env) fl) (hr : SE Γ c (eval r c.env) fr) :
    SE Γ c (eval (.Compare l [op] [r] pos) c.env) (fun env σ => (fl env σ).bind fun r => (fr env r.2).bind fun q => liftO q.2 ((cmpP (cC op) r.1 q.1).map PV.bool)) := by
  intro env σ h tk news ls Q I hp
  refine wpAny_Compare1 (hm := hm) (hl env σ h tk news ls _ I (Post.bind hp fun r v h1 tk1 n1 l1 I1 R1 g1 hp1 => ?_))
  refine hr env r.2 h1 tk1 n1 l1 _ I1 (Post.bind hp1 fun q v2 h2 tk2 n2 l2 I2 R2 g2 hp2 => ?_)
  obtain ⟨pv, hb, hp3⟩ := Post.lift hp2
  obtain ⟨b, hb', rfl⟩ := Option.map_eq_some_iff.mp hb
  refine cmp_ok (s := Γ.st h2 tk2) (I2.get gok cok) ?_ (R1.mono g2) R2 hb' (hp3 _ h2 tk2 n2 l2 I2 (.bool b) Grow.refl)
  have := cok.room
  show c.un + 65 < cLine
  omega
theorem sb_cmp (gok : Γ.Ok) (cok : c.Ok Γ) {l r : Expr} {op : CmpOp} {pos : Pos} {fl fr : EV} {whole : Sem Value} (hm : behindInMarks op r = false) (hl : SE Γ c (eval l c.env) fl) (hr : SE Γ c (eval r c.env) fr) :
    SB' Γ c (isTrue (.Compare l [op] [r] pos) c.env whole) (trOf (fun env σ => (fl env σ).bind fun r => (fr env r.2).bind fun q => liftO q.2 ((cmpP (cC op) r.1 q.1).map PV.bool))) := by
  intro env σ h tk news ls Q I hp
  unfold trOf at hp
  have e : ∀ (o : Out (PV × Store)) (f : PV × Store → Out (PV × Store)) (k : PV × Store → Out (Bool × Store)), (o.bind f).bind k = o.bind fun x => (f x).bind k := fun o f k => by cases o <;> rfl
  rw [e] at hp
  refine wpAny_isTrue_Compare1 (hm := hm) (hl env σ h tk news ls _ I (Post.bind hp fun r v h1 tk1 n1 l1 I1 R1 g1 hp1 => ?_))
  rw [e] at hp1
  refine hr env r.2 h1 tk1 n1 l1 _ I1 (Post.bind hp1 fun q v2 h2 tk2 n2 l2 I2 R2 g2 hp2 => ?_)
  cases hb : cmpP (cC op) r.1 q.1 with
  | none => rw [hb] at hp2; exact hp2.elim
  | some b =>
    rw [hb] at hp2
    refine cmp_ok (s := Γ.st h2 tk2) (I2.get gok cok) ?_ (R1.mono g2) R2 hb ?_
    · have := cok.room
      show c.un + 65 < cLine
      omega
    · exact wpAny_truthy_bool (hp2 b h2 tk2 n2 l2 I2 rfl Grow.refl)
theorem se_neg (gok : Γ.Ok) (cok : c.Ok Γ) {x : Expr} {pos : Pos} {f : EV} (hx : SE Γ c (eval x c.env) f) :
    SE Γ c (eval (.UnaryOp .USub x pos) c.env) (fun env σ => (f env σ).bind fun r => match r.1 with | .int i => .ok (.int (-i), r.2) | _ => .stuck) := by
  intro env σ h tk news ls Q I hp
  refine wpAny_UnaryOp (hx env σ h tk news ls _ I (Post.bind hp fun r v h1 tk1 n1 l1 I1 R1 g1 hp1 => ?_))
  obtain ⟨pv, σ1⟩ := r
  cases R1 with
  | int i t => exact PyProof.Rows.neg_int (hp1 _ h1 _ n1 l1 I1 (.int _ _) Grow.refl)
  | _ => exact hp1.elim
theorem truthy_ok (gok : Γ.Ok) (cok : c.Ok Γ) {env : Env'} {σ : Store} {h : Heap} {tk : Nat} {news : List (Addr × Obj)} {ls : List Addr} {v : Value} {pv : PV} {b : Bool} {Q : Bool → Shared → Prop}
    (I : Inv Γ c h env σ news ls) (r : RepV Γ.base Γ.ta news ls v pv) (hb : truthP σ pv = some b) (hq : ∀ tk', Q b (Γ.st h tk')) : wpAny (model Γ.prog Γ.w) c.A (truthy v) Q c.E (Γ.st h tk) := by
  cases r <;> simp only [truthP, Option.some.injEq, reduceCtorEq] at hb
  · subst hb; exact wpAny_truthy_bool (hq tk)
  · rename_i a k hk
    obtain ⟨l, hl, rfl⟩ := Option.map_eq_some_iff.mp hb
    obtain ⟨vs, n, hm, ra⟩ := I.S.at' k a l hk hl
    have ho := (I.N _ hm).1
    have hls : (Γ.st h tk).heap.IsList a vs.toArray := ⟨_, ho, rfl, n, rfl⟩
    have hsm := I.S.small l (List.mem_of_getElem? hl)
    have hln := ra.length
    refine wpAny_truthy_list hls ?_ ?_
    · simp only [List.size_toArray]
      have : szL = 16777216 := rfl
      omega
    · have e : (!vs.toArray.isEmpty) = !l.isEmpty := by
        cases vs <;> cases l <;> simp_all
      rw [e]
      exact hq _
theorem se_not (gok : Γ.Ok) (cok : c.Ok Γ) {x : Expr} {pos : Pos} {f : EV} (hx : SE Γ c (eval x c.env) f) :
    SE Γ c (eval (.UnaryOp .Not x pos) c.env) (fun env σ => (f env σ).bind fun r => (liftO r.2 (truthP r.2 r.1)).bind fun q => .ok (.bool (!q.1), q.2)) := by
  intro env σ h tk news ls Q I hp
  refine wpAny_UnaryOp (hx env σ h tk news ls _ I (Post.bind hp fun r v h1 tk1 n1 l1 I1 R1 g1 hp1 => ?_))
  cases hb : truthP r.2 r.1 with
  | none => rw [hb] at hp1; exact hp1.elim
  | some b =>
    rw [hb] at hp1
    exact not_of (truthy_ok gok cok I1 R1 hb fun tk' => hp1 _ h1 tk' n1 l1 I1 (.bool _) Grow.refl)
theorem sb_not (gok : Γ.Ok) (cok : c.Ok Γ) {x : Expr} {pos : Pos} {whole : Sem Value} {f : ET} (hx : SB' Γ c (isTrue x c.env (eval x c.env)) f) :
    SB' Γ c (isTrue (.UnaryOp .Not x pos) c.env whole) (fun env σ => (f env σ).bind fun r => .ok (!r.1, r.2)) := by
  intro env σ h tk news ls Q I hp
  refine isTrue_not (hx env σ h tk news ls _ I (Post.bind hp fun r v h1 tk1 n1 l1 I1 R1 g1 hp1 => ?_))
  cases R1
  exact hp1 _ h1 tk1 n1 l1 I1 rfl Grow.refl
/-- a test that is just a value's truth -/
theorem sb_plain (gok : Γ.Ok) (cok : c.Ok Γ) {x : Expr} {f : EV} (hx : SE Γ c (eval x c.env) f)
    (he : isTrue x c.env (eval x c.env) = (do let v ← eval x c.env; standAt x.pos; holding [v] (truthy v))) : SB' Γ c (isTrue x c.env (eval x c.env)) (trOf f) := by
  intro env σ h tk news ls Q I hp
  refine isTrue_plain (hx env σ h tk news ls _ I (Post.bind hp fun r v h1 tk1 n1 l1 I1 R1 g1 hp1 => ?_)) he
  obtain ⟨b, hb, hp2⟩ := Post.lift hp1
  exact truthy_ok gok cok I1 R1 hb fun tk' => hp2 _ h1 tk' n1 l1 I1 rfl Grow.refl
theorem se_ite (gok : Γ.Ok) (cok : c.Ok Γ) {t a b : Expr} {pos : Pos} {ft : ET} {fa fb : EV} (ht : SB' Γ c (isTrue t c.env (eval t c.env)) ft) (ha : SE Γ c (eval a c.env) fa) (hb : SE Γ c (eval b c.env) fb) :
    SE Γ c (eval (.IfExp t a b pos) c.env) (fun env σ => (ft env σ).bind fun r => match r.1 with | true => fa env r.2 | false => fb env r.2) := by
  intro env σ h tk news ls Q I hp
  refine IfExp_ (ht env σ h tk news ls _ I (Post.bind hp fun r v h1 tk1 n1 l1 I1 R1 g1 hp1 => ?_))
  obtain ⟨b', σ1⟩ := r
  cases R1
  cases b' with
  | true => exact ha env σ1 h1 tk1 n1 l1 Q I1 hp1
  | false => exact hb env σ1 h1 tk1 n1 l1 Q I1 hp1
theorem sb_ite (gok : Γ.Ok) (cok : c.Ok Γ) {t a b : Expr} {pos : Pos} {whole : Sem Value} {ft fa fb : ET} (ht : SB' Γ c (isTrue t c.env (eval t c.env)) ft) (ha : SB' Γ c (isTrue a c.env (eval a c.env)) fa) (hb : SB' Γ c (isTrue b c.env (eval b c.env)) fb) :
    SB' Γ c (isTrue (.IfExp t a b pos) c.env whole) (fun env σ => (ft env σ).bind fun r => match r.1 with | true => fa env r.2 | false => fb env r.2) := by
  intro env σ h tk news ls Q I hp
  refine isTrue_IfExp (ht env σ h tk news ls _ I (Post.bind hp fun r v h1 tk1 n1 l1 I1 R1 g1 hp1 => ?_))
  obtain ⟨b', σ1⟩ := r
  cases R1
  cases b' with
  | true => exact ha env σ1 h1 tk1 n1 l1 Q I1 hp1
  | false => exact hb env σ1 h1 tk1 n1 l1 Q I1 hp1
theorem seqIdx_eq (k : Int) (n : Nat) : seqIndex? k n = pyIdx k n := by
  unfold seqIndex? pyIdx
  by_cases h : 0 ≤ k
  · rw [if_pos h]
    have h' : ¬ k < 0 := by omega
    simp only [if_neg h']
    by_cases h2 : k.toNat < n
    · rw [if_pos h2, if_pos (by simp; omega)]
    · rw [if_neg h2, if_neg (by simp; omega)]
  · rw [if_neg h]
    have h' : k < 0 := by omega
    simp only [if_pos h']
    by_cases h2 : 0 ≤ k + n
    · rw [if_pos h2, if_pos (by simp; omega)]
    · rw [if_neg h2, if_neg (by simp; omega)]
theorem pyIdx_lt {k : Int} {n i : Nat} (h : pyIdx k n = some i) : i < n := by
  unfold pyIdx at h
  split at h <;> split at h <;> simp_all <;> omega
theorem list_item {A : Around} {E : Value → Shared → Prop} {prog : Program} {w : World} {s : Shared} {a : Addr} {vs : List Value} {k : Int} {t : Tok} {i : Nat} {v : Value} {Q : Value → Shared → Prop} (hl : s.heap.IsList a vs.toArray) (hk : k.natAbs < 2 ^ 62) (hi : pyIdx k vs.length = some i) (hv : vs[i]? = some v)
    (h : Q v s) : wpAny (model prog w) A (getItem (.ref a) (.int k t)) Q E s := by
  unfold pyIdx at hi
  split at hi
  · rename_i h0
    split at hi
    · cases hi
      exact wpAny_getItem_list hl h0 (by omega) (by simpa using hv) h
    · cases hi
  · rename_i h0
    split at hi
    · cases hi
      exact wpAny_getItem_list_neg hl (by omega) (by simp only [List.size_toArray]; omega) (by omega) (by simpa using hv) h
    · cases hi
theorem se_idx (gok : Γ.Ok) (cok : c.Ok Γ) {a i : Expr} {pos : Pos} {f1 f2 : EV} (hi : isSlice i = false) (ha : SE Γ c (eval a c.env) f1) (hx : SE Γ c (eval i c.env) f2) :
    SE Γ c (eval (.Subscript a i pos) c.env) (fun env σ => (f1 env σ).bind fun r => (f2 env r.2).bind fun q => liftO q.2 (idxP q.2 r.1 q.1)) := by
  intro env σ h tk news ls Q I hp
  refine Subscript_ (ha env σ h tk news ls _ I (Post.bind hp fun r v h1 tk1 n1 l1 I1 R1 g1 hp1 => ?_))
  refine hx env r.2 h1 tk1 n1 l1 _ I1 (Post.bind hp1 fun q v2 h2 tk2 n2 l2 I2 R2 g2 hp2 => ?_)
  obtain ⟨pv, hb, hp3⟩ := Post.lift hp2
  have R1' := R1.mono g2
  have hsub : ∀ o i', subscripted i false o i' = operate [o, i'] (getItem o i') := by
    intro o i'
    cases i <;> first | rfl | simp [isSlice] at hi
  obtain ⟨p1, σ1⟩ := r
  obtain ⟨p2, σ2⟩ := q
  dsimp only at *
  cases R1' with
  | @tup a' vs n ds hat ra =>
    cases R2 <;> simp only [idxP, reduceCtorEq] at hb
    rename_i k t
    split at hb
    · rename_i hk
      obtain ⟨j, hj, hd⟩ := Option.bind_eq_some_iff.mp hb
      obtain ⟨v', hv', rv⟩ := ra.get hd
      have ho := I2.get gok cok _ _ hat
      have ht : IsTup (Γ.st h2 tk2).heap a' vs.toArray := ⟨_, ho, rfl, n, rfl⟩
      refine tail_any ht.typeIs slot_tuple_getitem.lookup (getItem_tuple ht (by omega) (by omega) (j := j) ?_ (by simpa using hv') (hp3 _ h2 tk2 n2 l2 I2 rv Grow.refl)) (hsub _ _)
      rw [seqIdx_eq, List.size_toArray, ra.length]; exact hj
    · cases hb
  | @list a' vs n ds hat ra =>
    cases R2 <;> simp only [idxP, reduceCtorEq] at hb
    rename_i k t
    split at hb
    · rename_i hk
      obtain ⟨j, hj, hd⟩ := Option.bind_eq_some_iff.mp hb
      obtain ⟨v', hv', rv⟩ := ra.get hd
      have ho := I2.get gok cok _ _ hat
      have ht : (Γ.st h2 tk2).heap.IsList a' vs.toArray := ⟨_, ho, rfl, n, rfl⟩
      exact tail_any ht.typeIs slot_list_getitem.lookup (list_item ht hk (by rw [ra.length]; exact hj) hv' (hp3 _ h2 tk2 n2 l2 I2 rv Grow.refl)) (hsub _ _)
    · cases hb
  | @loc a' k' hk' =>
    cases R2 <;> simp only [idxP, reduceCtorEq] at hb
    rename_i k t
    split at hb
    · rename_i hk
      obtain ⟨l, hl, hb2⟩ := Option.bind_eq_some_iff.mp hb
      obtain ⟨j, hj, hd⟩ := Option.bind_eq_some_iff.mp hb2
      obtain ⟨vs, n, hm, ra⟩ := I2.S.at' _ _ _ hk' hl
      obtain ⟨v', hv', rv⟩ := ra.get hd
      have ho := (I2.N _ hm).1
      have ht : (Γ.st h2 tk2).heap.IsList a' vs.toArray := ⟨_, ho, rfl, n, rfl⟩
      exact tail_any ht.typeIs slot_list_getitem.lookup (list_item ht hk (by rw [ra.length]; exact hj) hv' (hp3 _ h2 tk2 n2 l2 I2 rv Grow.refl)) (hsub _ _)
    · cases hb
  | @str x tx sx hsx hcx =>
    cases R2 <;> simp only [idxP, reduceCtorEq] at hb
    rename_i k t
    split at hb
    · rename_i hk
      obtain ⟨j, hj, hd⟩ := Option.bind_eq_some_iff.mp hb
      obtain ⟨cc, hcc, rfl⟩ := Option.map_eq_some_iff.mp hd
      have hlen : x.length = sx.length := by rw [← hsx]; simp [Str.length]
      have hch : Txt.charAt x k = some cc := by
        unfold Txt.charAt
        rw [seqIdx_eq, hlen, hj]
        show x.cps[j]? = some cc
        rw [← Array.getElem?_toList, hsx]; exact hcc
      refine tail_any (typeIs_str _ _ _) F.slot_str_getitem.lookup (SB.getItem (i := k) ?_ (by rw [hch]; rfl) (hp3 _ h2 _ n2 l2 I2 (.str _ _ ?_ ?_) Grow.refl)) (hsub _ _)
      · unfold fitsSsize
        rw [decide_eq_false (by omega), decide_eq_false (by omega)]; rfl
      · unfold Txt.item
        rw [hch]; rfl
      · intro d hd'
        rw [List.mem_singleton.mp hd']
        exact hcx _ (List.mem_of_getElem? hcc)
    · cases hb
  | @tab a' k' hk' =>
    cases R2 <;> simp only [idxP, reduceCtorEq] at hb
    rename_i x tx sx hsx hcx
    obtain ⟨_, es, n, hl, hkl, hm⟩ := gok.tabs _ _ sx hk'
    rw [hb] at hm
    obtain ⟨v', hv', rv⟩ := hm
    have hX : Γ.KF.In h2 := by
      obtain ⟨m, F, _⟩ := I2.fr
      exact (gok.X.keeps cok.B.stays).keeps F.keep
    have hmo := mapOf_K (prog := Γ.prog) (w := Γ.w) hX hl hkl
    rw [← str_mk hsx] at hv'
    exact tail_any hmo.typeIs slot_dict_getitem.lookup (wpAny_getItem_of (s := Γ.st h2 tk2) (strKind_is Γ.prog Γ.w x tx) hmo (find_K hl hv') (hp3 _ h2 _ n2 l2 I2 (rv.mono grow_nil) Grow.refl)) (hsub _ _)
  | _ => cases R2 <;> simp [idxP] at hb
/-! a new object -/
theorem Inv.push {h : Heap} {env : Env'} {σ : Store} {news : List (Addr × Obj)} {ls : List Addr} (I : Inv Γ c h env σ news ls) (o : Obj) (hf : o.isFreed = false := by rfl) :
    Inv Γ c (h.push o) env σ ((h.objs.size, o) :: news) ls ∧ Grow news ls ((h.objs.size, o) :: news) ls ∧ (∀ a ∈ ls, a ≠ h.objs.size) := by
  obtain ⟨⟨m, F, hm⟩, N, S, G⟩ := I
  have g : Grow news ls ((h.objs.size, o) :: news) ls := ⟨fun p hp hn => ⟨.tail _ hp, hn⟩, [], (List.append_nil _).symm⟩
  refine ⟨⟨⟨m, F.push o, fun k x pv hx he => ?_⟩, N.push F o hf, ⟨S.len, S.nodup, S.off, S.small, fun k a l h1 h2 => ?_⟩, G.trans g⟩, g, fun a ha e => ?_⟩
  · obtain ⟨v, hv, r⟩ := hm k x pv hx he
    exact ⟨v, hv, r.mono g⟩
  · obtain ⟨vs, n, h3, h4⟩ := S.at' k a l h1 h2
    exact ⟨vs, n, .tail _ h3, h4.mono g⟩
  · obtain ⟨k, hk⟩ := List.getElem?_of_mem ha
    have hlt : k < σ.length := by rw [← S.len]; exact (List.getElem?_eq_some_iff.mp hk).1
    obtain ⟨vs, n, h3, _⟩ := S.at' k a (σ[k]) hk (List.getElem?_eq_getElem hlt)
    have := Heap.lt_size (N _ h3).1
    rw [e] at this
    exact absurd this (Nat.lt_irrefl _)
/-- a new live list -/
theorem Inv.pushL (gok : Γ.Ok) (cok : c.Ok Γ) {h : Heap} {env : Env'} {σ : Store} {news : List (Addr × Obj)} {ls : List Addr} (I : Inv Γ c h env σ news ls) {vs : List Value} {l : List PV} (r : RepA Γ.base Γ.ta news ls vs l) (hs : l.length ≤ szL) :
    Inv Γ c (h.push (lstO vs 0)) env (σ ++ [l]) ((h.objs.size, lstO vs 0) :: news) (ls ++ [h.objs.size]) ∧ Grow news ls ((h.objs.size, lstO vs 0) :: news) (ls ++ [h.objs.size]) := by
  have hnew : ∀ p ∈ news, p.1 ≠ h.objs.size := fun p hp e => by
    have := Heap.lt_size (I.N _ hp).1
    rw [e] at this
    exact absurd this (Nat.lt_irrefl _)
  obtain ⟨_, _, hoff⟩ := I.push (lstO vs 0)
  obtain ⟨⟨m, F, hm⟩, N, S, G⟩ := I
  have g : Grow news ls ((h.objs.size, lstO vs 0) :: news) (ls ++ [h.objs.size]) := ⟨fun p hp hn => ⟨.tail _ hp, fun hq => by
    rcases List.mem_append.mp hq with q | q
    · exact hn q
    · exact hnew p hp (List.mem_singleton.mp q)⟩, _, rfl⟩
  refine ⟨⟨⟨m, F.push _, fun k x pv hx he => ?_⟩, N.push F _, ⟨?_, ?_, ?_, ?_, ?_⟩, G.trans g⟩, g⟩
  · obtain ⟨v, hv, r⟩ := hm k x pv hx he
    exact ⟨v, hv, r.mono g⟩
  · simp [S.len]
  · rw [List.nodup_append]
    refine ⟨S.nodup, by simp, fun a ha b hb => ?_⟩
    rw [List.mem_singleton.mp hb]
    exact hoff a ha
  · intro a ha
    rcases List.mem_append.mp ha with q | q
    · exact S.off a q
    · rw [List.mem_singleton.mp q]
      cases hb : Γ.base.get? h.objs.size with
      | none => rfl
      | some o => exact absurd (Heap.lt_size (F.keep _ _ (cok.B.stays _ _ hb))) (Nat.lt_irrefl _)
  · intro l' hl
    rcases List.mem_append.mp hl with q | q
    · exact S.small _ q
    · rw [List.mem_singleton.mp q]; exact hs
  · intro k a l' h1 h2
    by_cases hk : k < ls.length
    · rw [List.getElem?_append_left hk] at h1
      rw [List.getElem?_append_left (by rw [← S.len]; exact hk)] at h2
      obtain ⟨ws, n, h3, h4⟩ := S.at' k a l' h1 h2
      exact ⟨ws, n, .tail _ h3, h4.mono g⟩
    · have hk' : k = ls.length := by
        have := (List.getElem?_eq_some_iff.mp h1).1
        simp at this; omega
      subst hk'
      rw [List.getElem?_append_right (Nat.le_refl _)] at h1
      rw [S.len, List.getElem?_append_right (Nat.le_refl _)] at h2
      simp at h1 h2
      subst h1 h2
      exact ⟨vs, 0, .head _, r.mono g⟩
theorem se_tup (gok : Γ.Ok) (cok : c.Ok Γ) {es : List Expr} {k : Nat} {pos : Pos} {f : Env' → Store → Out (List PV × Store)} (hl : es.length ≤ 1000) (hf : ∀ env σ r, f env σ = .ok r → r.1.length = es.length) (h : SL Γ c (spliced (backTo pos (starEach es c.env))) f) :
    SE Γ c (eval (.Tuple es k pos) c.env) (fun env σ => (f env σ).bind fun r => .ok (.tup r.1, r.2)) := by
  intro env σ h0 tk news ls Q I hp
  have hf' := hf env σ
  dsimp only at hp
  refine Tuple_ (h env σ h0 tk news ls _ I ?_)
  cases hr : f env σ with
  | exc => rw [hr] at hp; exact hp
  | stuck => rw [hr] at hp; exact hp.elim
  | ok r =>
    rw [hr] at hp
    intro vs h1 tk1 n1 l1 I1 R1 g1
    have hlen : vs.length ≤ 1000 := by rw [R1.length, hf' r hr]; exact hl
    obtain ⟨I2, g2, hoff⟩ := I1.push (tupO vs 0)
    refine wpAny_newObj_type ?_ (by show vs.toArray.size ≤ sizeLine; have := sizeLine_eq; simp; omega)
    exact hp _ _ tk1 _ l1 I2 (.tup (.inl ⟨.head _, fun hm => hoff _ hm rfl⟩) (R1.mono g2)) (g1.trans g2)
theorem se_lst (gok : Γ.Ok) (cok : c.Ok Γ) {es : List Expr} {pos : Pos} {f : Env' → Store → Out (List PV × Store)} (hl : es.length ≤ 1000) (hf : ∀ env σ r, f env σ = .ok r → r.1.length = es.length) (h : SL Γ c (spliced (backTo pos (starEach es c.env))) f) :
    SE Γ c (eval (.List es pos) c.env) (fun env σ => (f env σ).bind fun r => .ok (.loc r.2.length, r.2 ++ [r.1])) := by
  intro env σ h0 tk news ls Q I hp
  have hf' := hf env σ
  dsimp only at hp
  refine List_ (h env σ h0 tk news ls _ I ?_)
  cases hr : f env σ with
  | exc => rw [hr] at hp; exact hp
  | stuck => rw [hr] at hp; exact hp.elim
  | ok r =>
    rw [hr] at hp
    intro vs h1 tk1 n1 l1 I1 R1 g1
    have hl2 : r.1.length ≤ 1000 := by rw [hf' r hr]; exact hl
    have hlen : vs.length ≤ 1000 := by rw [R1.length]; exact hl2
    obtain ⟨I2, g2⟩ := I1.pushL gok cok R1 (by have : szL = 16777216 := rfl; omega)
    refine wpAny_newObj_type ?_ (by show vs.toArray.size ≤ sizeLine; have := sizeLine_eq; simp; omega)
    refine hp _ _ tk1 _ _ I2 (.loc ?_) (g1.trans g2)
    rw [← I1.S.len]
    simp
    rfl
def isStar : Expr → Bool
  | .Starred .. => true
  | _ => false
theorem star_cons {e : Expr} {rest : List Expr} {env : Env} (h : isStar e = false) : starEach (e :: rest) env = (false, eval e env) :: starEach rest env := by
  cases e <;> first | rfl | simp [isStar] at h
theorem lists_ok (gok : Γ.Ok) (cok : c.Ok Γ) {f : Expr → Option PE} (IH : ∀ e pe, f e = some pe → SE Γ c (eval e c.env) (ev C pe).1 ∧ SB' Γ c (isTrue e c.env (eval e c.env)) (ev C pe).2 ∧ isStar e = false) :
    ∀ es pes, cL f es = some pes → (∀ pos, SL Γ c (spliced (backTo pos (starEach es c.env))) (evs C pes).vals) ∧ (es ≠ [] → ∀ op p, SE Γ c (eval (.BoolOp op es p) c.env) ((evs C pes).b (op == .And))) ∧
      (∀ op p whole, SB' Γ c (isTrue (.BoolOp op es p) c.env whole) ((evs C pes).a (op == .And))) ∧ ((evs C pes).isNil = es.isEmpty) ∧ (∀ env σ r, (evs C pes).vals env σ = .ok r → r.1.length = es.length) := by
  intro es
  induction es with
  | nil =>
    intro pes h
    simp only [cL, Option.some.injEq] at h
    subst h
    refine ⟨fun pos env σ h0 tk news ls Q I hp => ?_, fun e => absurd rfl e, fun op p whole env σ h0 tk news ls Q I hp => ?_, rfl, ?_⟩
    · exact args_nil (hp [] h0 tk news ls I .nil Grow.refl)
    · have hq := hp (op == .And) h0 tk news ls I rfl Grow.refl
      cases op
      · exact isTrue_and_nil hq
      · exact isTrue_or_nil hq
    · intro env σ r hr
      simp only [evs, Out.ok.injEq] at hr
      subst hr; rfl
  | cons e rest ih =>
    intro pes h
    simp only [cL, Option.bind_eq_some_iff, Option.map_eq_some_iff] at h
    obtain ⟨a, ha, b, hb, rfl⟩ := h
    obtain ⟨ihv, ihb, iha, ihn, ihl⟩ := ih b hb
    obtain ⟨he, ht, hst⟩ := IH e a ha
    refine ⟨fun pos env σ h0 tk news ls Q I hp => ?_, fun _ op p env σ h0 tk news ls Q I hp => ?_, fun op p whole env σ h0 tk news ls Q I hp => ?_, rfl, ?_⟩
    · simp only [evs] at hp
      refine args_cons (he := star_cons hst) (he env σ h0 tk news ls _ I (Post.bind hp fun r v h1 tk1 n1 l1 I1 R1 g1 hp1 => ?_))
      refine ihv pos env r.2 h1 tk1 n1 l1 _ I1 (Post.bind hp1 fun q vs h2 tk2 n2 l2 I2 R2 g2 hp2 => ?_)
      exact hp2 _ h2 tk2 n2 l2 I2 (.cons (R1.mono g2) R2) Grow.refl
    · simp only [evs, ihn] at hp
      cases rest with
      | nil => exact BoolOp_one (he env σ h0 tk news ls Q I hp)
      | cons e2 rest =>
        simp only [List.isEmpty_cons] at hp
        have key := he env σ h0 tk news ls
        cases op with
        | And =>
          refine BoolOp_and (key _ I (Post.bind hp fun r v h1 tk1 n1 l1 I1 R1 g1 hp1 => ?_))
          cases hb' : truthP r.2 r.1 with
          | none => rw [hb'] at hp1; exact hp1.elim
          | some bb =>
            rw [hb'] at hp1
            refine truthy_ok gok cok I1 R1 hb' fun tk' => ?_
            cases bb with
            | true => exact ihb (by simp) .And p env r.2 h1 tk' n1 l1 Q I1 hp1
            | false => exact hp1 _ h1 tk' n1 l1 I1 R1 Grow.refl
        | Or =>
          refine BoolOp_or (key _ I (Post.bind hp fun r v h1 tk1 n1 l1 I1 R1 g1 hp1 => ?_))
          cases hb' : truthP r.2 r.1 with
          | none => rw [hb'] at hp1; exact hp1.elim
          | some bb =>
            rw [hb'] at hp1
            refine truthy_ok gok cok I1 R1 hb' fun tk' => ?_
            cases bb with
            | true => exact hp1 _ h1 tk' n1 l1 I1 R1 Grow.refl
            | false => exact ihb (by simp) .Or p env r.2 h1 tk' n1 l1 Q I1 hp1
    · simp only [evs] at hp
      have key := ht env σ h0 tk news ls
      cases op with
      | And =>
        refine isTrue_and (key _ I (Post.bind hp fun r v h1 tk1 n1 l1 I1 R1 g1 hp1 => ?_))
        obtain ⟨bb, σ1⟩ := r
        cases R1
        cases bb with
        | true => exact iha .And p whole env σ1 h1 tk1 n1 l1 Q I1 hp1
        | false => exact hp1 _ h1 tk1 n1 l1 I1 rfl Grow.refl
      | Or =>
        refine isTrue_or (key _ I (Post.bind hp fun r v h1 tk1 n1 l1 I1 R1 g1 hp1 => ?_))
        obtain ⟨bb, σ1⟩ := r
        cases R1
        cases bb with
        | true => exact hp1 _ h1 tk1 n1 l1 I1 rfl Grow.refl
        | false => exact iha .Or p whole env σ1 h1 tk1 n1 l1 Q I1 hp1
    · intro env σ r hr
      simp only [evs] at hr
      cases h1 : (ev C a).1 env σ with
      | exc => rw [h1] at hr; cases hr
      | stuck => rw [h1] at hr; cases hr
      | ok v =>
        rw [h1] at hr
        cases h2 : (evs C b).vals env v.2 with
        | exc => simp only [Out.bind, h2] at hr; cases hr
        | stuck => simp only [Out.bind, h2] at hr; cases hr
        | ok vs =>
          simp only [Out.bind, h2, Out.ok.injEq] at hr
          subst hr
          simp [ihl env v.2 vs h2]
end
end Mine
namespace Mine
open PySem PySem.W PySem.Calls PyProof.Rows
section
variable {Γ : GC} {c : FC} {C : Nat → List PV → Store → Out (PV × Store)}
/-! a slice of a text -/
theorem idx_cut (n : Nat) (lo hi : Option Int) : Builtin.Str.strSliceIndices lo hi 1 n = Builtin.Str.strSliceIndices (some ((lowOf n lo : Nat) : Int)) (some ((highOf n hi : Nat) : Int)) 1 n := by
  have e : ∀ i : Int, max 0 (min (if i < 0 then i + n else i) (n : Int)) = ((bnd i n : Nat) : Int) := by
    intro i
    unfold bnd
    by_cases h : 0 ≤ i
    · rw [if_neg (by omega), if_pos h]; omega
    · rw [if_pos (by omega), if_neg h]; omega
  have e2 : ∀ k : Nat, k ≤ n → max 0 (min (if (k : Int) < 0 then (k : Int) + n else (k : Int)) (n : Int)) = (k : Int) := by
    intro k hk
    rw [if_neg (by omega)]; omega
  have hb : ∀ i : Int, bnd i n ≤ n := by
    intro i; unfold bnd; split <;> omega
  unfold Builtin.Str.strSliceIndices
  simp only [show ((1 : Int) > 0) = True from by simp, if_true]
  cases lo <;> cases hi <;> simp only [lowOf, highOf, e]
  all_goals (congr 1 <;> first | rfl | exact (e2 _ (hb _)).symm | exact (e2 0 (Nat.zero_le _)).symm | exact (e2 n (Nat.le_refl _)).symm)
theorem bnd_le (i : Int) (n : Nat) : bnd i n ≤ n := by unfold bnd; split <;> omega
theorem cut_text (x : Str) (lo hi : Option Int) : (Txt.slice x lo hi).cps.toList = cutL x.cps.toList (lowOf x.length lo) (highOf x.length hi) := by
  have key : ∀ a b : Nat, b ≤ x.length → (if ((1 : Int) == 1 && (Builtin.Str.strSliceIndices (some (a : Int)) (some (b : Int)) 1 x.length).length == x.length) = true then x else ⟨((Builtin.Str.strSliceIndices (some (a : Int)) (some (b : Int)) 1 x.length).filterMap (x.cps[·]?)).toArray⟩ : Str).cps.toList = cutL x.cps.toList a b := by
    intro a b hb
    have hlen : x.cps.toList.length = x.length := by simp [Str.length]
    by_cases hab : a ≤ b
    · have := StrLaws.sliceText_nat x hab hb
      unfold StrLaws.sliceText at this
      rw [this]
      show ((x.cps.toList.drop a).take (b - a)) = (x.cps.toList.take b).drop a
      rw [List.drop_take]
    · have e : Builtin.Str.strSliceIndices (some (a : Int)) (some (b : Int)) 1 x.length = [] := by
        unfold Builtin.Str.strSliceIndices sliceRange
        simp only [show ((1 : Int) > 0) = True from by simp, if_true]
        have h1 : max 0 (min (if (b : Int) < 0 then (b : Int) + x.length else (b : Int)) (x.length : Int)) = (b : Int) := by rw [if_neg (by omega)]; omega
        have h2 : ¬ (max 0 (min (if (a : Int) < 0 then (a : Int) + x.length else (a : Int)) (x.length : Int)) < (b : Int)) := by rw [if_neg (by omega)]; omega
        rw [h1, if_neg h2]; rfl
      rw [e]
      have e3 : cutL x.cps.toList a b = [] := by
        unfold cutL
        apply List.drop_eq_nil_of_le
        rw [List.length_take]; omega
      rw [e3]
      split
      · rename_i h0
        simp only [List.length_nil, Bool.and_eq_true, beq_iff_eq] at h0
        have := hlen
        rw [← h0.2] at this
        exact List.eq_nil_of_length_eq_zero this
      · rfl
  unfold Txt.slice
  rw [idx_cut]
  apply key
  cases hi
  · exact Nat.le_refl _
  · exact bnd_le _ _
theorem cutL_mem {l : List Nat} {a b d : Nat} (h : d ∈ cutL l a b) : d ∈ l := List.mem_of_mem_take (List.mem_of_mem_drop h)
theorem slice_post {x : Str} {s : List Nat} (hx : x.cps.toList = s) (hc : ∀ d ∈ s, d < 128) (lo hi : Option Int) (t : Tok) {base : Heap} {ta : Nat → Option Addr} {news : List (Addr × Obj)} {ls : List Addr} :
    RepV base ta news ls (.str (Txt.slice x lo hi) t) (.str (cutL s (lowOf s.length lo) (highOf s.length hi))) := by
  subst hx
  refine .str _ _ ?_ fun d hd => hc d (cutL_mem hd)
  rw [cut_text]
  have : x.length = x.cps.toList.length := by simp [Str.length]
  rw [this]
theorem part_ok (gok : Γ.Ok) (cok : c.Ok Γ) {f : Expr → Option PE} (IH : ∀ e pe, f e = some pe → SE Γ c (eval e c.env) (ev C pe).1) {o : Option Expr} {pe : PE} (h : cOpt f o = some pe) : SE Γ c (evalPart o c.env) (ev C pe).1 := by
  cases o with
  | none =>
    simp only [cOpt, Option.some.injEq] at h
    subst h
    intro env σ h0 tk news ls Q I hp
    exact evalPart_none_step (hp _ _ _ _ _ I .none Grow.refl)
  | some e => exact IH e pe h
theorem se_cut (gok : Γ.Ok) (cok : c.Ok Γ) {a : Expr} {lo hi : Option Expr} {p pos : Pos} {f1 f2 f3 : EV} (h1 : SE Γ c (eval a c.env) f1) (h2 : SE Γ c (evalPart lo c.env) f2) (h3 : SE Γ c (evalPart hi c.env) f3) :
    SE Γ c (eval (.Subscript a (.Slice lo hi none p) pos) c.env) (fun env σ => (f1 env σ).bind fun r => (f2 env r.2).bind fun q => (f3 env q.2).bind fun t => liftO t.2 (cutP r.1 q.1 t.1)) := by
  intro env σ h tk news ls Q I hp
  refine Subscript_ (h1 env σ h tk news ls _ I (Post.bind hp fun r v h1' tk1 n1 l1 I1 R1 g1 hp1 => ?_))
  refine wpAny_Slice (h2 env r.2 h1' tk1 n1 l1 _ I1 (Post.bind hp1 fun q v2 h2' tk2 n2 l2 I2 R2 g2 hp2 => ?_))
  refine h3 env q.2 h2' tk2 n2 l2 _ I2 (Post.bind hp2 fun t v3 h3' tk3 n3 l3 I3 R3 g3 hp3 => ?_)
  obtain ⟨pv, hb, hp4⟩ := Post.lift hp3
  obtain ⟨p1, σ1⟩ := r
  obtain ⟨p2, σ2⟩ := q
  obtain ⟨p3, σ3⟩ := t
  dsimp only at *
  refine evalPart_none_step ?_
  have R1' := (R1.mono g2).mono g3
  have R2' := R2.mono g3
  cases R1' with
  | @str x tx s hx hc =>
    simp only [cutP] at hb
    split at hb
    · rename_i hsl
      obtain ⟨a', ha', hb2⟩ := Option.bind_eq_some_iff.mp hb
      obtain ⟨b', hb', e⟩ := Option.map_eq_some_iff.mp hb2
      subst e
      have hsz : x.length ≤ sizeLine := by
        show x.cps.size ≤ sizeLine
        rw [← Array.length_toList, hx, sizeLine_eq]
        exact hsl
      have fin : ∀ h' t' k, Inv Γ c h' env σ3 n3 l3 → Q (.str (Txt.slice x a' b') t') (Γ.st h' k) :=
        fun h' t' k I' => hp4 _ h' k n3 l3 I' (slice_post hx hc a' b' t') Grow.refl
      obtain ⟨⟨m, F, hm⟩, N, S, G⟩ := id I3
      have up : ∀ h', Fr c.g c.L h' m → News c.g c.L h' n3 → Inv Γ c h' env σ3 n3 l3 := fun h' F' N' => ⟨⟨m, F', hm⟩, N', S, G⟩
      have ht : ∀ r, letTemporaryGo a (.str x tx) r = pure () := by intro r; cases a <;> rfl
      cases R2' <;> simp only [boundP, Option.some.injEq, reduceCtorEq] at ha' <;> subst ha' <;> cases R3 <;> simp only [boundP, Option.some.injEq, reduceCtorEq] at hb' <;> subst hb'
      · exact slice_strN_nn (s := Γ.st h3' tk3) F N (fun h' t' k F' N' => fin h' t' k (up h' F' N')) (by rfl) ht hsz
      · exact slice_strN_ns (s := Γ.st h3' tk3) F N (fun h' t' k F' N' => fin h' t' k (up h' F' N')) (by rfl) ht hsz
      · exact slice_strN_sn (s := Γ.st h3' tk3) F N (fun h' t' k F' N' => fin h' t' k (up h' F' N')) (by rfl) ht hsz
      · exact slice_strN_ss (s := Γ.st h3' tk3) F N (fun h' t' k F' N' => fin h' t' k (up h' F' N')) (by rfl) ht hsz
    · cases hb
  | _ => simp [cutP] at hb
end
end Mine
namespace Mine
open PySem PySem.W PySem.Calls PyProof.Rows
section
variable {Γ : GC} {c : FC} {C : Nat → List PV → Store → Out (PV × Store)}
theorem nodup_idx {α : Type} {l : List α} (h : l.Nodup) {i j : Nat} {a : α} (hi : l[i]? = some a) (hj : l[j]? = some a) : i = j := by
  obtain ⟨p1, q1⟩ := List.getElem?_eq_some_iff.mp hi
  obtain ⟨p2, q2⟩ := List.getElem?_eq_some_iff.mp hj
  have hp := List.pairwise_iff_getElem.mp h
  rcases Nat.lt_trichotomy i j with h1 | h1 | h1
  · exact absurd (q1.trans q2.symm) (hp i j p1 p2 h1)
  · exact h1
  · exact absurd (q2.trans q1.symm) (hp j i p2 p1 h1)
theorem no_star {pos : Pos} {env : Env} : ∀ (es : List Expr), (∀ e ∈ es, isStar e = false) → (backTo pos (starEach es env)).any (·.1) = false
  | [], _ => rfl
  | e :: rest, h => by
    rw [star_cons (h e (.head _))]
    show (false || (backTo pos (starEach rest env)).any (·.1)) = false
    rw [no_star rest fun e he => h e (.tail _ he)]; rfl
/-- a live list is turned -/
theorem Inv.turn (gok : Γ.Ok) (cok : c.Ok Γ) {h h' : Heap} {env : Env'} {σ : Store} {news : List (Addr × Obj)} {ls : List Addr} (I : Inv Γ c h env σ news ls) {k : Nat} {a : Addr} {l l' : List PV} {vs : List Value} {n n' : Nat} {vs' : List Value}
    (hk : ls[k]? = some a) (hl : σ[k]? = some l) (hm : (a, lstO vs n) ∈ news) (hs : Heap.SameBut a h h') (ho : h'.get? a = some (lstO vs' n')) (hr : RepA Γ.base Γ.ta news ls vs' l') (hsm : l'.length ≤ szL) :
    ∃ news', Inv Γ c h' env (σ.set k l') news' ls ∧ Grow news ls news' ls := by
  obtain ⟨⟨m, F, hmm⟩, N, S, G⟩ := I
  have hal : a ∈ ls := List.mem_of_getElem? hk
  have g : Grow news ls (news.map fun p => if p.1 = a then (a, lstO vs' n') else p) ls := by
    refine ⟨fun p hp hn => ⟨?_, hn⟩, [], (List.append_nil _).symm⟩
    refine List.mem_map.mpr ⟨p, hp, ?_⟩
    rw [if_neg (fun e : p.1 = a => hn (by rw [e]; exact hal))]
  refine ⟨_, ⟨⟨m, F.update N hm hs, fun j x pv hx he => ?_⟩, N.update hm hs ho, ⟨?_, S.nodup, S.off, ?_, ?_⟩, G.trans g⟩, g⟩
  · obtain ⟨v, hv, r⟩ := hmm j x pv hx he
    exact ⟨v, hv, r.mono g⟩
  · simp [S.len]
  · intro q hq
    rcases List.mem_or_eq_of_mem_set hq with h1 | h1
    · exact S.small q h1
    · rw [h1]; exact hsm
  · intro j b q h1 h2
    by_cases hj : j = k
    · subst hj
      rw [hk] at h1
      cases h1
      rw [List.getElem?_set_self (List.getElem?_eq_some_iff.mp hl).1] at h2
      cases h2
      exact ⟨vs', n', List.mem_map.mpr ⟨_, hm, by rw [if_pos rfl]⟩, hr.mono g⟩
    · rw [List.getElem?_set_ne (Ne.symm hj)] at h2
      obtain ⟨ws, i, h3, h4⟩ := S.at' j b q h1 h2
      have hne : b ≠ a := fun e => by
        subst e
        exact hj (nodup_idx S.nodup h1 hk)
      exact ⟨ws, i, List.mem_map.mpr ⟨_, h3, by rw [if_neg hne]⟩, h4.mono g⟩
theorem se_call (gok : Γ.Ok) (cok : c.Ok Γ) (hC : CallOk Γ c C) {x : Str} {k : Nat} {np pos : Pos} {es : List Expr} {f : Env' → Store → Out (List PV × Store)} (hl : c.cs.names.lookup x = some .globalImplicit) (hd : (x == ("__debug__" : Str)) = false) (hk : dnames.findIdx? (· == x) = some k)
    (hst : ∀ e ∈ es, isStar e = false) (hnil : es = [] → ∀ env σ, f env σ = .ok ([], σ)) (hf : ∀ pos, SL Γ c (spliced (backTo pos (starEach es c.env))) f) :
    SE Γ c (eval (.Call (.Name x np) es [] pos) c.env) (fun env σ => (f env σ).bind fun r => C k r.1 r.2) := by
  intro env σ h tk news ls Q I hp
  have hX := gok.X.keeps cok.B.stays
  refine Call_ ?_
  obtain ⟨⟨m, F, hm⟩, N, S, G⟩ := id I
  refine name_Kx (s := Γ.st h tk) F hX (topRead_of (gok.T.keeps cok.B.stays)) (gok.defs x k hk) ?_ cok.kind hl hd
  have body := hf pos env σ h tk news ls (fun vs s₁ => Γ.KF.In s₁.heap ∧ wpAny (model Γ.prog Γ.w) c.A (call (.ref (Γ.fa k)) ([] ++ vs)) Q c.E s₁) I (Post.bind hp fun r vs h1 tk1 n1 l1 I1 R1 g1 hp1 => by
    obtain ⟨⟨m1, F1, _⟩, _, _, _⟩ := id I1
    exact ⟨hX.keeps F1.keep, hC k r.1 env r.2 h1 tk1 n1 l1 vs Q I1 R1 hp1.toS⟩)
  cases es with
  | nil =>
    dsimp only at hp
    rw [hnil rfl] at hp
    exact callWith_K0 (hX.keeps F.keep) (gok.defk x k hk) (hC k [] env σ h tk news ls [] Q I .nil (Post.toS hp))
  | cons e rest =>
    have he := hst e (.head _)
    refine callWith_K hX (gok.defk x k hk) body (star_cons he) ?_
    exact no_star rest fun e he => hst e (.tail _ he)
def biVal : BI → Value
  | .len => .builtin "len" | .int => .type "int" | .str => .type "str" | .abs => .builtin "abs" | .max => .builtin "max"
theorem boot_bi : ∀ b, bootBuiltins (biName b) = some (biVal b) := by
  intro b; cases b <;> decide +kernel
theorem bi_dbg : ∀ b, (biName b == ("__debug__" : Str)) = false := by
  intro b; cases b <;> decide +kernel
theorem bi_nm : ∀ b, biName b ≠ "__name__" := by
  intro b; cases b <;> decide +kernel
theorem digits_read {x : Str} {s : List Nat} (hx : x.cps.toList = s) (h : digitsOk s = true) : PySem.intText? x = some ((digitsVal s : Nat) : Int) ∧ x.length ≤ 640 := by
  subst hx
  unfold digitsOk at h
  simp only [Bool.and_eq_true, Bool.not_eq_true', decide_eq_true_eq] at h
  obtain ⟨⟨h1, h2⟩, h3⟩ := h
  have hl : x.length ≤ 640 := by
    show x.cps.size ≤ 640
    rw [← Array.length_toList]; exact h3
  refine ⟨PySem.intText_digits (fun c hc => ?_) (fun e => ?_) (by omega), hl⟩
  · have := List.all_eq_true.mp h2 c hc
    simpa using this
  · rw [e] at h1; simp at h1
theorem call_bi (gok : Γ.Ok) (cok : c.Ok Γ) {env : Env'} {σ : Store} {h : Heap} {tk : Nat} {news : List (Addr × Obj)} {ls : List Addr} {b : BI} {args : List PV} {vs : List Value} {pv : PV} {Q : Value → Shared → Prop}
    (I : Inv Γ c h env σ news ls) (r : RepA Γ.base Γ.ta news ls vs args) (hb : biP σ b args = some pv) (hq : ∀ v h' tk', Inv Γ c h' env σ news ls → RepV Γ.base Γ.ta news ls v pv → Q v (Γ.st h' tk')) :
    wpAny (model Γ.prog Γ.w) c.A (call (biVal b) vs) Q c.E (Γ.st h tk) := by
  have one : ∀ {d : PV}, RepA Γ.base Γ.ta news ls vs [d] → ∃ v, vs = [v] ∧ RepV Γ.base Γ.ta news ls v d := by
    intro d hr
    cases hr with | cons h1 h2 => cases h2; exact ⟨_, rfl, h1⟩
  have hszl : szL = 16777216 := rfl
  cases b with
  | len =>
    match args, hb with
    | [.str s], hb =>
      simp only [biP, Option.some.injEq] at hb
      obtain ⟨v, rfl, rv⟩ := one r
      cases rv with
      | str x t hx hc =>
        have hxl : x.length = s.length := by rw [← hx]; simp [Str.length]
        split at hb
        · rename_i hs
          cases hb
          refine PyProof.Rows.len_str (by rw [hxl]; omega) ?_
          rw [hxl]
          exact hq _ h _ I (.int _ _)
        · cases hb
    | [.list l], hb =>
      simp only [biP] at hb
      split at hb
      · rename_i hs
        cases hb
        obtain ⟨v, rfl, rv⟩ := one r
        cases rv with
        | @list a ws n ds hat ra =>
          have hl : (Γ.st h tk).heap.IsList a ws.toArray := ⟨_, I.get gok cok _ _ hat, rfl, n, rfl⟩
          have hw := ra.length
          refine len_list hl (by simp; omega) ?_
          rw [List.size_toArray, hw]
          exact hq _ h _ I (.int _ _)
      · cases hb
    | [.loc k], hb =>
      simp only [biP] at hb
      obtain ⟨l, hl', e⟩ := Option.map_eq_some_iff.mp hb
      subst e
      obtain ⟨v, rfl, rv⟩ := one r
      cases rv with
      | @loc a k hk =>
        obtain ⟨ws, n, hm, ra⟩ := I.S.at' k a l hk hl'
        have hsm := I.S.small l (List.mem_of_getElem? hl')
        have hl : (Γ.st h tk).heap.IsList a ws.toArray := ⟨_, (I.N _ hm).1, rfl, n, rfl⟩
        have hw := ra.length
        refine len_list hl (by simp; omega) ?_
        rw [List.size_toArray, hw]
        exact hq _ h _ I (.int _ _)
  | int =>
    match args, hb with
    | [.str s], hb =>
      simp only [biP] at hb
      split at hb
      · rename_i hs
        cases hb
        obtain ⟨v, rfl, rv⟩ := one r
        cases rv with
        | str x t hx hc =>
          obtain ⟨h1, h2⟩ := digits_read hx hs
          exact KIN.call_text h1 h2 (hq _ h _ I (.int _ _))
      · cases hb
  | str =>
    match args, hb with
    | [.int i], hb =>
      simp only [biP] at hb
      split at hb
      · rename_i hs
        cases hb
        obtain ⟨v, rfl, rv⟩ := one r
        cases rv with
        | int i t =>
          refine P.str_of_int ?_ (hq _ h _ I (.str _ _ ?_ ?_))
          · rcases Nat.eq_zero_or_pos i.natAbs with h0 | hp
            · rw [h0]; decide
            · refine (Nat.log2_lt (Nat.ne_of_gt hp)).mpr (Nat.lt_of_lt_of_le hs ?_)
              decide +kernel
          · show (Str.ofString (toString i)).cps.toList = _
            rw [Str.ofString_eq_toList]; rfl
          · intro d hd
            apply Decidable.byContradiction
            intro hnd
            have := int_text_free' d ⟨by omega, .inr (by omega)⟩ i
            apply this
            rw [Str.ofString_eq_toList]
            exact hd
      · cases hb
  | abs =>
    match args, hb with
    | [.int i], hb =>
      simp only [biP, Option.some.injEq] at hb
      subst hb
      obtain ⟨v, rfl, rv⟩ := one r
      cases rv with
      | int i t =>
        refine call_abs_int fun u tk' => ?_
        have e : (if i < 0 then -i else i) = (i.natAbs : Int) := by split <;> omega
        rw [e]
        exact hq _ h tk' I (.int _ _)
  | max =>
    match args, hb with
    | [.int i, .int j], hb =>
      simp only [biP, Option.some.injEq] at hb
      subst hb
      cases r with
      | cons r1 r2 =>
        cases r2 with
        | cons r2 r3 =>
          cases r3
          cases r1; cases r2
          refine max_two_ints rfl fun h' tk' hk => ?_
          split
          · rename_i hij
            exact hq _ h' tk' (I.keeps hk) (by rw [Int.max_eq_right (by omega)]; exact .int _ _)
          · rename_i hij
            exact hq _ h' tk' (I.keeps hk) (by rw [Int.max_eq_left (by omega)]; exact .int _ _)
theorem se_bi (gok : Γ.Ok) (cok : c.Ok Γ) {b : BI} {x : Str} (hx : x = biName b) {np pos : Pos} {es : List Expr} {f : Env' → Store → Out (List PV × Store)} (hl : c.cs.names.lookup x = some .globalImplicit)
    (hne : es ≠ []) (hst : ∀ e ∈ es, isStar e = false) (hf : ∀ pos, SL Γ c (spliced (backTo pos (starEach es c.env))) f) :
    SE Γ c (eval (.Call (.Name x np) es [] pos) c.env) (fun env σ => (f env σ).bind fun r => liftO r.2 (biP r.2 b r.1)) := by
  subst hx
  intro env σ h tk news ls Q I hp
  have hX := gok.X.keeps cok.B.stays
  refine Call_ ?_
  obtain ⟨⟨m, F, hm⟩, N, S, G⟩ := id I
  refine name_Bx (s := Γ.st h tk) F hX (topRead_of (gok.T.keeps cok.B.stays)) (gok.nobi b) (boot_bi b) (bi_nm b) ?_ cok.kind hl (bi_dbg b)
  have body := hf pos env σ h tk news ls (fun vs s₁ => wpAny (model Γ.prog Γ.w) c.A (call (biVal b) vs) Q c.E s₁) I (Post.bind hp fun r vs h1 tk1 n1 l1 I1 R1 g1 hp1 => by
    obtain ⟨pv, hb, hp2⟩ := Post.lift hp1
    exact call_bi gok cok I1 R1 hb fun v h' tk' I' rv => hp2 v h' tk' n1 l1 I' rv Grow.refl)
  cases es with
  | nil => exact absurd rfl hne
  | cons e rest =>
    have he := hst e (.head _)
    have hr := no_star (pos := pos) (env := c.env) rest fun e he => hst e (.tail _ he)
    cases b
    · exact callWith_builtin1 body (star_cons he) hr
    · exact PyProof.Rows.callWith_type1 body (star_cons he) hr
    · exact PyProof.Rows.callWith_type1 body (star_cons he) hr
    · exact callWith_builtin1 body (star_cons he) hr
    · exact callWith_builtin1 body (star_cons he) hr
end
end Mine
namespace Mine
open PySem PySem.W PySem.Calls PyProof.Rows
section
variable {Γ : GC} {c : FC} {C : Nat → List PV → Store → Out (PV × Store)}
def isAN (d : Nat) : Bool := (48 ≤ d && d ≤ 57) || (65 ≤ d && d ≤ 90) || (97 ≤ d && d ≤ 122)
theorem isalnum_ascii : ∀ d : Nat, d < 128 → Txt.isalnum ⟨#[d]⟩ = isAN d := by
  decide +kernel
def meId : ME → String
  | .append => "list.append" | .pop => "list.pop" | .get => "dict.get" | .isalnum => "str.isalnum"
def meName : ME → Str
  | .append => "append" | .pop => "pop" | .get => "get" | .isalnum => "isalnum"
def meT : ME → String
  | .append => "list" | .pop => "list" | .get => "dict" | .isalnum => "str"
theorem me_attrs : ∀ m, PlainAttrs (meT m) := by
  intro m; cases m
  · exact F.plainAttrs_list
  · exact F.plainAttrs_list
  · exact F.plainAttrs_dict
  · exact F.plainAttrs_str
theorem me_slot : ∀ m, Slot (meT m) (meName m) (meId m) := by
  intro m; cases m
  · exact F.slot_list_append
  · exact F.slot_list_pop
  · exact F.slot_dict_get
  · exact F.slot_str_isalnum
theorem me_ty : ∀ m, typeOf (.builtin (meId m)) = pure (.type "method_descriptor") := by
  intro m; cases m
  · exact F.type_list_append
  · exact F.type_list_pop
  · exact F.type_dict_get
  · exact F.type_str_isalnum
theorem recv_ok (gok : Γ.Ok) (cok : c.Ok Γ) {env : Env'} {σ : Store} {h : Heap} {tk : Nat} {news : List (Addr × Obj)} {ls : List Addr} {m : ME} {p : PV} {v : Value}
    (I : Inv Γ c h env σ news ls) (r : RepV Γ.base Γ.ta news ls v p) (hm : recvP m p = true) : (Γ.st h tk).TypeIs v (meT m) ∧ (∀ a, v = .ref a → ∃ ob, (Γ.st h tk).heap.get? a = some ob ∧ ob.dict = none) := by
  have hloc : ∀ {a : Addr} {k : Nat}, ls[k]? = some a → ∃ vs n, h.get? a = some (lstO vs n) := by
    intro a k hk
    have hlt : k < σ.length := by rw [← I.S.len]; exact (List.getElem?_eq_some_iff.mp hk).1
    obtain ⟨vs, n, h3, _⟩ := I.S.at' k a (σ[k]) hk (List.getElem?_eq_getElem hlt)
    exact ⟨vs, n, (I.N _ h3).1⟩
  cases m <;> cases r <;> simp only [recvP, reduceCtorEq, Bool.false_eq_true] at hm
  · rename_i a k hk
    obtain ⟨vs, n, ho⟩ := hloc hk
    exact ⟨⟨_, ho, rfl⟩, fun b e => by cases e; exact ⟨_, ho, rfl⟩⟩
  · rename_i a k hk
    obtain ⟨vs, n, ho⟩ := hloc hk
    exact ⟨⟨_, ho, rfl⟩, fun b e => by cases e; exact ⟨_, ho, rfl⟩⟩
  · rename_i a k hk
    obtain ⟨_, es, n, hl, hkl, _⟩ := gok.tabs k a [] hk
    have hX : Γ.KF.In h := by
      obtain ⟨mm, F, _⟩ := I.fr
      exact (gok.X.keeps cok.B.stays).keeps F.keep
    exact ⟨⟨_, hX _ _ hl, rfl⟩, fun b e => by cases e; exact ⟨_, hX _ _ hl, rfl⟩⟩
  · exact ⟨typeIs_str _ _ _, fun b e => nomatch e⟩
theorem call_me (gok : Γ.Ok) (cok : c.Ok Γ) {env : Env'} {σ : Store} {h : Heap} {tk : Nat} {news : List (Addr × Obj)} {ls : List Addr} {m : ME} {p : PV} {args : List PV} {v : Value} {vs : List Value} {Q : Value → Shared → Prop}
    (I : Inv Γ c h env σ news ls) (r : RepV Γ.base Γ.ta news ls v p) (ra : RepA Γ.base Γ.ta news ls vs args) (hp : Post (RV Γ) Γ c env news ls Q (meP m p args σ)) :
    wpAny (model Γ.prog Γ.w) c.A (call (.builtin (meId m)) (v :: vs)) Q c.E (Γ.st h tk) := by
  have hszl : szL = 16777216 := rfl
  have hsl := sizeLine_eq
  unfold meP at hp
  split at hp
  · rename_i k d
    cases hl : σ[k]? with
    | none => rw [hl] at hp; exact hp.elim
    | some l =>
      rw [hl] at hp
      dsimp only at hp
      split at hp
      · rename_i hlt
        cases r with
        | @loc a k hk =>
          cases ra with
          | cons r1 r2 =>
            cases r2
            obtain ⟨ws, n, hm, rw'⟩ := I.S.at' k a l hk hl
            have hw := rw'.length
            refine append_at (s := Γ.st h tk) (n := n) (its := ws.toArray) (I.N _ hm).1 (fun h' hs ho => ?_) (by simp; omega)
            obtain ⟨news', I', g⟩ := I.turn gok cok (vs' := ws ++ [_]) hk hl hm hs (by simpa using ho) (rw'.append (.cons r1 .nil)) (by simp; omega)
            exact hp _ h' tk news' ls I' .none g
      · exact hp.elim
  · rename_i k
    cases hl : σ[k]? with
    | none => rw [hl] at hp; exact hp.elim
    | some l =>
      rw [hl] at hp
      dsimp only at hp
      cases hla : l.getLast? with
      | none => rw [hla] at hp; exact hp.elim
      | some d =>
        rw [hla] at hp
        cases r with
        | @loc a k hk =>
          cases ra
          obtain ⟨ws, n, hm, rw'⟩ := I.S.at' k a l hk hl
          have hw := rw'.length
          have hsm := I.S.small l (List.mem_of_getElem? hl)
          obtain ⟨v', hv', rv⟩ := rw'.last hla
          have ho : (Γ.st h tk).heap.get? a = some (lstO ws n) := (I.N _ hm).1
          have hwne : ws ≠ [] := by intro e; rw [e] at hv'; simp at hv'
          have hpos : 0 < ws.length := List.length_pos_iff.mpr hwne
          have e1 : ws.toArray.eraseIdxIfInBounds (ws.toArray.size - 1) = ws.dropLast.toArray := by
            apply Array.toList_inj.mp
            rw [Array.eraseIdxIfInBounds]
            have hlt : ws.length - 1 < ws.length := by omega
            simp [hlt]
          have e2 : Obj.mapSeq (fun xs => xs.eraseIdxIfInBounds (ws.toArray.size - 1)) (lstO ws n) = lstO ws.dropLast (n + 1) := by
            simp only [Obj.mapSeq, e1]
            congr 1
            simp only [List.size_toArray, List.length_dropLast]
            rw [if_neg]
            simp
            omega
          refine call_meets (s := Γ.st h tk) F.slot_list_pop ⟨_, ho, rfl⟩ F.entry_list_pop (F.args_list_pop_1 _) (MeetsSeq.list_pop_last a ws.toArray n v' ?_ (by simp; omega)) ⟨ho, ?_⟩
          · rw [List.getLast?_eq_getElem?] at hv'
            simpa using hv'
          · obtain ⟨news', I', g⟩ := I.turn gok cok (h' := h.update a (Obj.mapSeq fun xs => xs.eraseIdxIfInBounds (ws.toArray.size - 1))) (vs' := ws.dropLast) (n' := n + 1) hk hl hm (Heap.SameBut.update ..)
              ((Heap.get?_update_self (h := h) _ ho (by rw [e2]; rfl)).trans (congrArg some e2)) rw'.dropLast (by simp; omega)
            exact hp _ _ tk news' ls I' (rv.mono g) g
  · rename_i k s d
    cases r with
    | @tab a k hk =>
      cases ra with
      | cons r1 r2 =>
        cases r2 with
        | cons r2 r3 =>
          cases r3
          cases r1 with
          | str x t hx hc =>
            obtain ⟨lo, es, n, hl, hkl, hm⟩ := gok.tabs _ _ s hk
            have hX : Γ.KF.In h := by
              obtain ⟨m, F, _⟩ := I.fr
              exact (gok.X.keeps cok.B.stays).keeps F.keep
            have hmo := mapOf_K (prog := Γ.prog) (w := Γ.w) hX hl hkl
            rw [← str_mk hx] at hm
            refine call_meetsIn (s := Γ.st h tk) F.slot_dict_get hmo.typeIs F.entry_dict_get (F.args_dict_get_3 _ _ _) (meets_dict_get_default (strKind Γ.prog Γ.w) a (strKind_is Γ.prog Γ.w x t) lo _) ⟨_, hmo, ?_⟩
            cases htp : tabP k s with
            | none =>
              rw [htp] at hm hp
              rw [find_K hl hm]
              exact hp _ h _ news ls I r2 Grow.refl
            | some pv =>
              rw [htp] at hm hp
              obtain ⟨v', hv', rv⟩ := hm
              rw [find_K hl hv']
              exact hp _ h _ news ls I (rv.mono grow_nil) Grow.refl
  · rename_i d
    split at hp
    · rename_i hd
      cases ra
      cases r with
      | str x t hx hc =>
        refine SC.isalnum (hp _ h _ news ls I ?_ Grow.refl)
        have := str_mk hx
        subst this
        rw [show (⟨[d].toArray⟩ : Str) = ⟨#[d]⟩ from rfl, isalnum_ascii d hd]
        exact .bool _
    · exact hp.elim
  · exact hp.elim
theorem attr_base {o : Expr} {name : Str} {env : Env} (h : isCall o = false) : attributeBase o name env (eval o env) = eval o env := by
  cases o <;> first | rfl | simp [isCall] at h
theorem kw_none {pos : Pos} {env : Env} : backToKw pos (keywordEach [] env) = [] := rfl
theorem star_all {pos : Pos} {env : Env} (es : List Expr) (h : ∀ e ∈ es, isStar e = false) : (backTo pos (starEach es env)).all (fun x => !x.1) = true := by
  have := no_star (pos := pos) (env := env) es h
  rw [List.any_eq_false] at this
  rw [List.all_eq_true]
  intro x hx
  have := this x hx
  simpa using this
theorem se_me (gok : Γ.Ok) (cok : c.Ok Γ) {m : ME} {x : Str} (hx : x = meName m) {o : Expr} {apos pos : Pos} {es : List Expr} {fo : EV} {f : Env' → Store → Out (List PV × Store)}
    (hcall : isCall o = false) (hline : (apos.endLine == pos.line) = true) (hlen : es.length < 20) (hst : ∀ e ∈ es, isStar e = false) (hnil : es = [] → ∀ env σ, f env σ = .ok ([], σ))
    (ho : SE Γ c (eval o c.env) fo) (hf : ∀ pos, SL Γ c (spliced (backTo pos (starEach es c.env))) f) :
    SE Γ c (eval (.Call (.Attribute o x apos) es [] pos) c.env) (fun env σ => (fo env σ).bind fun r => match recvP m r.1 with | true => (f env r.2).bind fun q => meP m r.1 q.1 q.2 | false => .stuck) := by
  subst hx
  intro env σ h tk news ls Q I hp
  have hall := star_all (pos := pos) (env := c.env) es hst
  refine wpAny_Call_method_lateS (attr_base hcall) ?_ hline (ho env σ h tk news ls _ I (Post.bind hp fun r v h1 tk1 n1 l1 I1 R1 g1 hp1 => ?_))
  · rw [hall, kw_none]
    simp
    omega
  cases hr : recvP m r.1 with
  | false => rw [hr] at hp1; exact hp1.elim
  | true =>
    rw [hr] at hp1
    dsimp only at hp1
    obtain ⟨hT, hd⟩ := recv_ok (tk := tk1) gok cok I1 R1 hr
    refine ⟨meT m, meId m, me_attrs m, me_slot m, me_ty m, hT, hd, ?_⟩
    cases es with
    | nil =>
      rw [hnil rfl] at hp1
      exact callWith_method0 (call_me gok cok I1 R1 .nil hp1)
    | cons e rest =>
      have body := hf pos env r.2 h1 tk1 n1 l1 (fun vs s₁ => wpAny (model Γ.prog Γ.w) c.A (call (.builtin (meId m)) ([v] ++ vs)) Q c.E s₁) I1 (Post.bind hp1 fun q vs h2 tk2 n2 l2 I2 R2 g2 hp2 =>
        call_me gok cok I2 (R1.mono g2) R2 hp2)
      exact callWith_method1 body (star_cons (hst e (.head _))) (no_star rest fun e he => hst e (.tail _ he))
theorem cL_mem {f : Expr → Option PE} : ∀ {es : List Expr} {ps : PEs}, cL f es = some ps → ∀ e ∈ es, ∃ pe, f e = some pe
  | [], _, _, _, h => nomatch h
  | e :: r, ps, h, x, hx => by
    simp only [cL, Option.bind_eq_some_iff, Option.map_eq_some_iff] at h
    obtain ⟨a, ha, b, hb, _⟩ := h
    rcases List.mem_cons.mp hx with rfl | hx
    · exact ⟨a, ha⟩
    · exact cL_mem hb x hx
theorem cL_nil {f : Expr → Option PE} {ps : PEs} (h : cL f [] = some ps) : ps = .nil := by simp only [cL, Option.some.injEq] at h; exact h.symm
/-- the value and the truth of each expression that the small language takes -/
theorem sound_E (gok : Γ.Ok) (cok : c.Ok Γ) (hC : CallOk Γ c C) {X : CX} (hsc : X.sc = c.cs) (hnm : X.nm = c.nm) (hdn : X.dn = dnames) (hgc : X.gc = consts) :
    ∀ n e pe, cE X n e = some pe → SE Γ c (eval e c.env) (ev C pe).1 ∧ SB' Γ c (isTrue e c.env (eval e c.env)) (ev C pe).2 ∧ isStar e = false := by
  intro n
  induction n with
  | zero => intro e pe h; simp [cE] at h
  | succ n IH =>
    have IH1 : ∀ e pe, cE X n e = some pe → SE Γ c (eval e c.env) (ev C pe).1 := fun e pe h => (IH e pe h).1
    have hL := lists_ok gok cok IH
    have hglob : ∀ {x : Str}, isGlob X x = true → c.cs.names.lookup x = some .globalImplicit ∧ (x == ("__debug__" : Str)) = false := by
      intro x h
      unfold isGlob at h
      simp only [Bool.and_eq_true, beq_iff_eq, Bool.not_eq_true'] at h
      rw [← hsc]; exact h
    have plain : ∀ {e : Expr} {f : EV}, SE Γ c (eval e c.env) f → isTrue e c.env (eval e c.env) = (do let v ← eval e c.env; standAt e.pos; holding [v] (truthy v)) → isStar e = false → SE Γ c (eval e c.env) (wV f).1 ∧ SB' Γ c (isTrue e c.env (eval e c.env)) (wV f).2 ∧ isStar e = false :=
      fun h he hs => ⟨h, sb_plain gok cok h he, hs⟩
    intro e pe h
    cases e with
    | Constant k kk pos =>
      cases k <;> simp only [cE, Option.some.injEq, reduceCtorEq] at h
      · subst h; exact plain (se_cst_none (C := C)) rfl rfl
      · subst h; exact plain (se_cst_bool (C := C)) rfl rfl
      · subst h; exact plain (se_cst_int (C := C)) rfl rfl
      · split at h
        · rename_i hx
          cases h
          exact plain (se_cst_str (C := C) hx) rfl rfl
        · cases h
    | Name x pos =>
      simp only [cE, cN] at h
      split at h
      · rename_i k hk
        cases h
        exact plain (se_var (C := C) gok cok ⟨hsc, hnm⟩ hk) rfl rfl
      · split at h
        · rename_i hg
          obtain ⟨pv, hpv, rfl⟩ := Option.map_eq_some_iff.mp h
          obtain ⟨h1, h2⟩ := hglob hg
          rw [hgc] at hpv
          exact plain (se_glob (C := C) gok cok h1 h2 hpv) rfl rfl
        · cases h
    | BinOp l op r pos =>
      simp only [cE, Option.bind_eq_some_iff, Option.map_eq_some_iff] at h
      obtain ⟨o, ho, a, ha, b, hb, rfl⟩ := h
      exact plain (se_bin gok cok ho (IH1 _ _ ha) (IH1 _ _ hb)) rfl rfl
    | UnaryOp op x pos =>
      cases op <;> simp only [cE, Option.map_eq_some_iff, reduceCtorEq] at h
      · obtain ⟨a, ha, rfl⟩ := h
        exact ⟨se_not gok cok (IH1 _ _ ha), sb_not gok cok (IH _ _ ha).2.1, rfl⟩
      · obtain ⟨a, ha, rfl⟩ := h
        exact plain (se_neg gok cok (IH1 _ _ ha)) rfl rfl
    | BoolOp op vs pos =>
      simp only [cE] at h
      split at h
      · cases h
      · rename_i hne
        obtain ⟨es, hes, rfl⟩ := Option.map_eq_some_iff.mp h
        obtain ⟨_, hb, ha, _⟩ := hL vs es hes
        exact ⟨hb (by intro e; subst e; simp at hne) op pos, ha op pos _, rfl⟩
    | Compare l ops cs pos =>
      cases ops with
      | nil => simp [cE] at h
      | cons op ops =>
        cases ops with
        | cons _ _ => simp [cE] at h
        | nil =>
          cases cs with
          | nil => simp [cE] at h
          | cons r cs =>
            cases cs with
            | cons _ _ => simp [cE] at h
            | nil =>
              simp only [cE, Option.bind_eq_some_iff, Option.map_eq_some_iff] at h
              obtain ⟨a, ha, b, hb, rfl⟩ := h
              have hm : behindInMarks op r = false := by
                cases n with
                | zero => simp [cE] at hb
                | succ n => cases r <;> first | rfl | simp [cE] at hb
              exact ⟨se_cmp gok cok hm (IH1 _ _ ha) (IH1 _ _ hb), sb_cmp gok cok hm (IH1 _ _ ha) (IH1 _ _ hb), rfl⟩
    | IfExp t a b pos =>
      simp only [cE, Option.bind_eq_some_iff, Option.map_eq_some_iff] at h
      obtain ⟨t', ht, a', ha, b', hb, rfl⟩ := h
      exact ⟨se_ite gok cok (IH _ _ ht).2.1 (IH1 _ _ ha) (IH1 _ _ hb), sb_ite gok cok (IH _ _ ht).2.1 (IH _ _ ha).2.1 (IH _ _ hb).2.1, rfl⟩
    | Call fn args kws pos =>
      cases kws with
      | cons _ _ => cases fn <;> simp [cE] at h
      | nil =>
        cases fn with
        | Name x np =>
          simp only [cE] at h
          split at h
          · rename_i hg
            obtain ⟨h1, h2⟩ := hglob hg
            obtain ⟨es, hes, h⟩ := Option.bind_eq_some_iff.mp h
            obtain ⟨hv, _, _, _, _⟩ := hL args es hes
            have hst : ∀ e ∈ args, isStar e = false := fun e he => by
              obtain ⟨pe, hpe⟩ := cL_mem hes e he
              exact (IH e pe hpe).2.2
            have hnil : args = [] → ∀ env σ, (evs C es).vals env σ = .ok ([], σ) := by
              intro e; subst e
              rw [cL_nil hes]; intro env σ; rfl
            split at h
            · rename_i k hk
              cases h
              rw [hdn] at hk
              exact plain (se_call gok cok hC h1 h2 hk hst hnil hv) rfl rfl
            · split at h
              · cases h
              · rename_i hne
                obtain ⟨b, hb, rfl⟩ := Option.map_eq_some_iff.mp h
                have hbn : x = biName b := by
                  unfold cBi at hb
                  repeat' (split at hb)
                  all_goals (simp only [Option.some.injEq, reduceCtorEq] at hb)
                  all_goals (subst hb; exact beq_iff_eq.mp (by assumption))
                exact plain (se_bi gok cok hbn h1 (by intro e; subst e; simp at hne) hst hv) rfl rfl
          · cases h
        | Attribute o m apos =>
          simp only [cE] at h
          split at h
          · cases h
          · rename_i hcond
            simp only [Bool.or_eq_true, Bool.not_eq_true', decide_eq_false_iff_not, not_or, Bool.not_eq_true, Bool.not_eq_false, Decidable.not_not] at hcond
            obtain ⟨⟨hc1, hc2⟩, hc3⟩ := hcond
            simp only [Option.bind_eq_some_iff, Option.map_eq_some_iff] at h
            obtain ⟨mm, hmm, o', ho, es, hes, rfl⟩ := h
            obtain ⟨hv, _, _, _, _⟩ := hL args es hes
            have hst : ∀ e ∈ args, isStar e = false := fun e he => by
              obtain ⟨pe, hpe⟩ := cL_mem hes e he
              exact (IH e pe hpe).2.2
            have hnil : args = [] → ∀ env σ, (evs C es).vals env σ = .ok ([], σ) := by
              intro e; subst e
              rw [cL_nil hes]; intro env σ; rfl
            have hmn : m = meName mm := by
              unfold cMe at hmm
              repeat' (split at hmm)
              all_goals (simp only [Option.some.injEq, reduceCtorEq] at hmm)
              all_goals (subst hmm; exact beq_iff_eq.mp (by assumption))
            exact plain (se_me gok cok hmn hc1 hc2 hc3 hst hnil (IH1 _ _ ho) hv) rfl rfl
        | _ => simp [cE] at h
    | Subscript a i pos =>
      by_cases hs : isSlice i = true
      · cases i with
        | Slice lo hi st p =>
          cases st with
          | some _ => simp [cE, isSlice] at h
          | none =>
            simp only [cE, Option.bind_eq_some_iff, Option.map_eq_some_iff] at h
            obtain ⟨a', ha, lo', hlo, hi', hhi, rfl⟩ := h
            exact plain (se_cut gok cok (IH1 _ _ ha) (part_ok gok cok IH1 hlo) (part_ok gok cok IH1 hhi)) rfl rfl
        | _ => simp [isSlice] at hs
      · have hs' : isSlice i = false := by simpa using hs
        have h' : (if isSlice i then none else (cE X n a).bind fun a => (cE X n i).map fun i => PE.idx a i) = some pe := by
          cases i <;> first | exact h | simp [isSlice] at hs'
        rw [hs'] at h'
        simp only [Bool.false_eq_true, if_false, Option.bind_eq_some_iff, Option.map_eq_some_iff] at h'
        obtain ⟨a', ha, i', hi, rfl⟩ := h'
        exact plain (se_idx gok cok hs' (IH1 _ _ ha) (IH1 _ _ hi)) rfl rfl
    | Tuple es k pos =>
      simp only [cE] at h
      split at h
      · rename_i hlen
        obtain ⟨ps, hps, rfl⟩ := Option.map_eq_some_iff.mp h
        obtain ⟨hv, _, _, _, hll⟩ := hL es ps hps
        exact plain (se_tup gok cok hlen hll (hv pos)) rfl rfl
      · cases h
    | List es pos =>
      simp only [cE] at h
      split at h
      · rename_i hlen
        obtain ⟨ps, hps, rfl⟩ := Option.map_eq_some_iff.mp h
        obtain ⟨hv, _, _, _, hll⟩ := hL es ps hps
        exact plain (se_lst gok cok hlen hll (hv pos)) rfl rfl
      · cases h
    | _ => simp [cE] at h
end
end Mine
namespace Mine
open PySem PySem.W PySem.Calls PyProof.Rows
inductive RF (Γ : GC) (news : List (Addr × Obj)) (ls : List Addr) : Flow → Fl → Prop
  | next : RF Γ news ls .next .next
  | cont : RF Γ news ls .cont .cont
  | ret {v : Value} {p : PV} : RepV Γ.base Γ.ta news ls v p → RF Γ news ls (.ret v) (.ret p)
theorem RF.mono {Γ : GC} {news news' : List (Addr × Obj)} {ls ls' : List Addr} {f : Flow} {g : Fl} (gr : Grow news ls news' ls') (h : RF Γ news ls f g) : RF Γ news' ls' f g := by
  cases h with
  | next => exact .next
  | cont => exact .cont
  | ret r => exact .ret (r.mono gr)
def PostF (Γ : GC) (c : FC) (news : List (Addr × Obj)) (ls : List Addr) (Q : Flow → Shared → Prop) : Out (Fl × Env' × Store) → Prop
  | .ok r => ∀ f h' tk' news' ls', Inv Γ c h' r.2.1 r.2.2 news' ls' → RF Γ news' ls' f r.1 → Grow news ls news' ls' → Q f (Γ.st h' tk')
  | .exc => c.may
  | .stuck => False
def SX (Γ : GC) (c : FC) (t : Sem Flow) (f : EX) : Prop :=
  ∀ env σ h tk news ls Q, Inv Γ c h env σ news ls → PostF Γ c news ls Q (f env σ) → wpAny (model Γ.prog Γ.w) c.A t Q c.E (Γ.st h tk)
section
variable {Γ : GC} {c : FC} {C : Nat → List PV → Store → Out (PV × Store)}
theorem PostF.grow {news n' : List (Addr × Obj)} {ls l' : List Addr} {Q : Flow → Shared → Prop} {o : Out (Fl × Env' × Store)} (g : Grow news ls n' l') (hp : PostF Γ c news ls Q o) : PostF Γ c n' l' Q o := by
  cases o with
  | ok r => exact fun f h' tk' n2 l2 I r g2 => hp f h' tk' n2 l2 I r (g.trans g2)
  | exc => exact hp
  | stuck => exact hp
section
variable {ρ' β : Type} {R' : List (Addr × Obj) → List Addr → ρ' → β → Prop} {env : Env'} {news : List (Addr × Obj)} {ls : List Addr}
theorem PostF.ofBind {Q : Flow → Shared → Prop} {Q' : ρ' → Shared → Prop} {o : Out (β × Store)} {f : β × Store → Out (Fl × Env' × Store)} (hp : PostF Γ c news ls Q (o.bind f))
    (k : ∀ r v h' tk' n' l', Inv Γ c h' env r.2 n' l' → R' n' l' v r.1 → Grow news ls n' l' → PostF Γ c n' l' Q (f r) → Q' v (Γ.st h' tk')) : Post R' Γ c env news ls Q' o := by
  cases o with
  | ok r => exact fun v h' tk' n2 l2 I rr g => k r v h' tk' n2 l2 I rr g (PostF.grow g hp)
  | exc => exact hp
  | stuck => exact hp
end
theorem PostF.bind {news : List (Addr × Obj)} {ls : List Addr} {Q Q' : Flow → Shared → Prop} {o : Out (Fl × Env' × Store)} {f : Fl × Env' × Store → Out (Fl × Env' × Store)} (hp : PostF Γ c news ls Q (o.bind f))
    (k : ∀ r v h' tk' n' l', Inv Γ c h' r.2.1 r.2.2 n' l' → RF Γ n' l' v r.1 → Grow news ls n' l' → PostF Γ c n' l' Q (f r) → Q' v (Γ.st h' tk')) : PostF Γ c news ls Q' o := by
  cases o with
  | ok r => exact fun v h' tk' n2 l2 I rr g => k r v h' tk' n2 l2 I rr g (PostF.grow g hp)
  | exc => exact hp
  | stuck => exact hp
/-- a local name takes a value -/
theorem Inv.store (cok : c.Ok Γ) {h h' : Heap} {env : Env'} {σ : Store} {news : List (Addr × Obj)} {ls : List Addr} {m : Str → Option Value} {k : Nat} {x : Str} {v : Value} {pv : PV}
    (F : Fr c.g c.L h m) (hm : ∀ (k : Nat) x pv, c.nm[k]? = some x → env.getD k none = some pv → ∃ v, m x = some v ∧ RepV Γ.base Γ.ta news ls v pv) (N : News c.g c.L h news) (S : StoreOk Γ.base Γ.ta news ls σ) (G : Grow c.news₀ c.ls₀ news ls)
    (hn : c.nm[k]? = some x) (r : RepV Γ.base Γ.ta news ls v pv) (hns : h'.Ns c.L (fun y => if y = x then some v else m y)) (hs : Heap.SameBut c.L h h') : Inv Γ c h' (env.set k (some pv)) σ news ls := by
  refine ⟨⟨_, F.set hns hs, fun j y q hy hq => ?_⟩, N.set hs, S, G⟩
  by_cases hj : j = k
  · subst hj
    rw [hn] at hy
    cases hy
    rw [if_pos rfl]
    by_cases hl : j < env.length
    · rw [List.getD_eq_getElem?_getD, List.getElem?_set_self hl] at hq
      cases hq
      exact ⟨v, rfl, r⟩
    · rw [List.getD_eq_getElem?_getD, List.getElem?_eq_none (by simp; omega)] at hq
      cases hq
  · have hne : y ≠ x := fun e => by
      subst e
      exact hj (nodup_idx cok.nmnd hy hn)
    rw [if_neg hne]
    rw [List.getD_eq_getElem?_getD, List.getElem?_set_ne (Ne.symm hj), ← List.getD_eq_getElem?_getD] at hq
    exact hm j y q hy hq
theorem slot_of {X : CX} {x : Str} {k : Nat} (hk : slot X x = some k) : X.sc.names.lookup x = some .local ∧ X.nm[k]? = some x ∧ (x == ("__debug__" : Str)) = false := by
  unfold slot at hk
  split at hk
  · split at hk
    · rename_i hc
      cases hk
      simp only [Bool.and_eq_true, beq_iff_eq, Bool.not_eq_true'] at hc
      exact ⟨hc.1.1, hc.2, hc.1.2⟩
    · cases hk
  · cases hk
theorem store_ok (cok : c.Ok Γ) {X : CX} (hsc : X.sc = c.cs) (hnm : X.nm = c.nm) {x : Str} {k : Nat} (hk : slot X x = some k) {h : Heap} {tk : Nat} {env : Env'} {σ : Store} {news : List (Addr × Obj)} {ls : List Addr} {v : Value} {pv : PV} {Q : Unit → Shared → Prop}
    (I : Inv Γ c h env σ news ls) (r : RepV Γ.base Γ.ta news ls v pv) (hq : ∀ h' tk', Inv Γ c h' (env.set k (some pv)) σ news ls → Q () (Γ.st h' tk')) :
    wpAny (model Γ.prog Γ.w) c.A (storeName c.env x v) Q c.E (Γ.st h tk) := by
  obtain ⟨hl, hn, _⟩ := slot_of hk
  rw [hsc] at hl
  rw [hnm] at hn
  obtain ⟨⟨m, F, hm⟩, N, S, G⟩ := I
  refine wpAny_storeName_local (m := m) hl F.ns (fun h' hn' hs' => hq h' _ (Inv.store cok F hm N S G hn r hn' hs')) ?_
  show (c.cs.kind == .class || (c.cs.kind == .module && c.L != mainGlobals)) = false
  rw [cok.kind]; rfl
/-- no comprehension -/
def isComp : Expr → Bool
  | .ListComp .. => true
  | .SetComp .. => true
  | .DictComp .. => true
  | _ => false
theorem swaps_no {e : Expr} (h : isComp e = false) (t : Option Expr) (l : Nat) (env : Env) : swapsWith e t l env = pure false := by
  cases e <;> first | rfl | simp [isComp] at h
theorem cE_comp {X : CX} {n : Nat} {e : Expr} {pe : PE} (h : cE X n e = some pe) : isComp e = false := by
  cases n with
  | zero => simp [cE] at h
  | succ n => cases e <;> first | rfl | simp [cE] at h
theorem sx_asg (cok : c.Ok Γ) {X : CX} (hsc : X.sc = c.cs) (hnm : X.nm = c.nm) {x : Str} {k : Nat} {xp pos : Pos} {e : Expr} {f : EV} (hk : slot X x = some k) (hc : isComp e = false) (he : SE Γ c (eval e c.env) f) :
    SX Γ c (exec (.Assign [.Name x xp] e pos) c.env) (fun env σ => (f env σ).bind fun r => .ok (.next, env.set k (some r.1), r.2)) := by
  intro env σ h tk news ls Q I hp
  refine wpAny_Assign_Name (he env σ h tk news ls _ I (PostF.ofBind hp fun r v h1 tk1 n1 l1 I1 R1 g1 hp1 => ?_)) (swaps_no hc _ _ _)
  exact store_ok cok hsc hnm hk I1 R1 fun h' tk' I' => hp1 _ h' tk' n1 l1 I' .next Grow.refl
theorem sx_exp {pos : Pos} {e : Expr} {f : EV} (cok : c.Ok Γ) (hc : isComp e = false) (he : SE Γ c (eval e c.env) f) :
    SX Γ c (exec (.Expr e pos) c.env) (fun env σ => (f env σ).bind fun r => match r.1 with | .none => .ok (.next, env, r.2) | _ => .stuck) := by
  intro env σ h tk news ls Q I hp
  refine wpAny_Expr (he env σ h tk news ls _ I (PostF.ofBind hp fun r v h1 tk1 n1 l1 I1 R1 g1 hp1 => ?_)) ?_ (swaps_no hc _ _ _)
  · obtain ⟨pv, σ1⟩ := r
    dsimp only at *
    cases R1 with
    | none => exact hp1 _ h1 tk1 n1 l1 I1 .next Grow.refl
    | _ => exact hp1.elim
  · show (c.cs.kind == .module && _) = false
    rw [cok.kind]; rfl
theorem sx_ret {pos : Pos} {e : Expr} {f : EV} (he : SE Γ c (eval e c.env) f) :
    SX Γ c (exec (.Return (some e) pos) c.env) (fun env σ => (f env σ).bind fun r => .ok (.ret r.1, env, r.2)) := by
  intro env σ h tk news ls Q I hp
  exact wpAny_Return_some (he env σ h tk news ls _ I (PostF.ofBind hp fun r v h1 tk1 n1 l1 I1 R1 g1 hp1 => hp1 _ h1 tk1 n1 l1 I1 (.ret R1) Grow.refl))
theorem sx_if {pos : Pos} {t : Expr} {a b : List Stmt} {ft : ET} {fa fb : EX} (ht : SB' Γ c (isTrue t c.env (eval t c.env)) ft) (ha : SX Γ c (execs a c.env) fa) (hb : SX Γ c (execs b c.env) fb) :
    SX Γ c (exec (.If t a b pos) c.env) (fun env σ => (ft env σ).bind fun r => match r.1 with | true => fa env r.2 | false => fb env r.2) := by
  intro env σ h tk news ls Q I hp
  refine wpAny_If (ht env σ h tk news ls _ I (PostF.ofBind hp fun r v h1 tk1 n1 l1 I1 R1 g1 hp1 => ?_))
  obtain ⟨bb, σ1⟩ := r
  cases R1
  cases bb with
  | true => simp only [if_true]; exact ha env σ1 h1 tk1 n1 l1 Q I1 hp1
  | false => simp only [Bool.false_eq_true, if_false]; exact hb env σ1 h1 tk1 n1 l1 Q I1 hp1
theorem aug_ok {s : Shared} {A : Around} {E : Value → Shared → Prop} {prog : Program} {w : World} {base : Heap} {ta : Nat → Option Addr} {n1 n2 news : List (Addr × Obj)} {l1 l2 ls : List Addr} {o : BO} {op : Operator} {p1 p2 p : PV} {v1 v2 : Value} {Q : Value → Shared → Prop} (ho : cO op = some o) (ho' : (o == .add || o == .sub || o == .div) = true) (h1 : RepV base ta n1 l1 v1 p1) (h2 : RepV base ta n2 l2 v2 p2) (hp : binP o p1 p2 = some p)
    (h : ∀ v tk, RepV base ta news ls v p → Q v { s with toks := tk }) : wpAny (model prog w) A (inplaceOp op v1 v2) Q E s := by
  cases op <;> simp only [cO, Option.some.injEq, reduceCtorEq] at ho <;> subst ho
  · cases h1 <;> cases h2 <;> simp only [binP, reduceCtorEq, Option.some.injEq] at hp
    · subst hp
      exact PyProof.Rows.iadd_int (h _ _ (.int _ _))
    · rename_i x t a hx hxc y u b hy hyc
      split at hp
      · rename_i hl
        cases hp
        refine PyProof.Rows.iadd_str (fun t' tk => h _ _ (.str _ _ ?_ (fun c hc => (List.mem_append.mp hc).elim (hxc c) (hyc c)))) ?_
        · rw [append_cps, hx, hy]
        · have := sizeLine_eq
          show x.cps.size + y.cps.size ≤ sizeLine
          rw [← Array.length_toList, ← Array.length_toList, hx, hy]
          exact hl
      · cases hp
  · cases h1 <;> cases h2 <;> simp only [binP, reduceCtorEq, Option.some.injEq] at hp
    subst hp
    exact PyProof.Rows.isub_int (h _ _ (.int _ _))
  · cases ho'
  · cases ho'
  · cases ho'
  · cases h1 <;> cases h2 <;> simp only [binP, reduceCtorEq, Option.some.injEq] at hp
    split at hp
    · rename_i hb
      cases hp
      subst hb
      exact PyProof.Rows.ifloordiv_int (by omega) (h _ _ (.int _ _))
    · cases hp
theorem sx_aug (gok : Γ.Ok) (cok : c.Ok Γ) {X : CX} (hsc : X.sc = c.cs) (hnm : X.nm = c.nm) {x : Str} {k : Nat} {xp pos : Pos} {e : Expr} {f : EV} {op : Operator} {o : BO} (hk : slot X x = some k) (ho : cO op = some o) (ho' : (o == .add || o == .sub || o == .div) = true) (he : SE Γ c (eval e c.env) f) :
    SX Γ c (exec (.AugAssign (.Name x xp) op e pos) c.env) (fun env σ => match env.getD k none with
      | some v => (f env σ).bind fun r => (match binP o v r.1 with
        | some q => .ok (.next, env.set k (some q), r.2)
        | none => .stuck)
      | none => .stuck) := by
  intro env σ h tk news ls Q I hp
  cases hv : env.getD k none with
  | none => simp only [hv] at hp; exact hp.elim
  | some pv =>
    simp only [hv] at hp
    obtain ⟨⟨m, F, hm⟩, N, S, G⟩ := id I
    obtain ⟨hl, hn, hd⟩ := slot_of hk
    rw [hsc] at hl
    rw [hnm] at hn
    obtain ⟨v, hmv, rv⟩ := hm k x pv hn hv
    refine wpAny_AugAssign_Name ?_
    refine ldnx (s := Γ.st h tk) F hmv ?_ cok.kind hl
    refine he env σ h tk news ls _ I (PostF.ofBind hp fun r v2 h1 tk1 n1 l1 I1 R1 g1 hp1 => ?_)
    cases hb : binP o pv r.1 with
    | none => simp only [hb] at hp1; exact hp1.elim
    | some q =>
      simp only [hb] at hp1
      refine aug_ok (s := Γ.st h1 tk1) (news := n1) (ls := l1) ho ho' (rv.mono g1) R1 hb fun v3 tk3 r3 => ?_
      exact store_ok cok hsc hnm hk I1 r3 fun h' tk' I' => hp1 _ h' tk' n1 l1 I' .next Grow.refl
section
variable {prog : Program} {w : World} {A : Around} {E : Value → Shared → Prop} {s : Shared}
theorem setItem_lst {l : Addr} {vs : List Value} {n : Nat} {k : Int} {t : Tok} {v : Value} {Q : Unit → Shared → Prop} (ho : s.heap.get? l = some (lstO vs n))
    (h0 : 0 ≤ k) (hfit : k < 2 ^ 63) (hn : k < vs.length)
    (hQ : ∀ h' n', h'.get? l = some (lstO (vs.set k.toNat v) n') → Heap.SameBut l s.heap h' → Q () { s with heap := h' }) :
    wpAny (model prog w) A (setItem (.ref l) (.int k t) v) Q E s := by
  have hl : s.heap.IsList l vs.toArray := ⟨_, ho, rfl, n, rfl⟩
  unfold setItem
  try with_reducible refine wpAny_holding ?_
  first | refine wpAny_bind (wpAny_pure ?_) | skip
  refine wpAny_bind (wpAny_sequenceKey hl.typeIs (by decide) ?_)
  refine wpAny_bind (wpAny_callSpecial?_slot (name := Str.ofString "__setitem__") hl.typeIs F.slot_list_setitem
    (wpAny_call_entry F.slot_list_setitem hl.typeIs F.entry_list_setitem ?_ (F.args_list_setitem_3 _ _ _)))
  show wpAny _ _ (Builtin.List.listSubscript? (.int k t) >>= _) _ _ s
  refine wpAny_bind (wpAny_listSubscript_int (fitsIndex_of h0 hfit) ?_)
  clear hfit
  obtain ⟨j, rfl⟩ := Int.eq_ofNat_of_zero_le h0
  have hj : j < vs.toArray.size := by simp; omega
  have hx' : vs.toArray[j]? = some vs.toArray[j] := Array.getElem?_eq_getElem hj
  show wpAny _ _ ((seqItemAt l j >>= fun r => pure (r.map (j, ·))) >>= _) _ _ s
  refine wpAny_bind (wpAny_bind (wpAny_seqItemAt ho rfl (wpAny_pure ?_)))
  rw [hx']
  show wpAny _ _ (setSeqItemAt l j v >>= _) _ _ s
  have e2 : ∃ n', Obj.mapSeq (·.setIfInBounds j v) (lstO vs n) = lstO (vs.set j v) n' := by
    have e : vs.toArray.setIfInBounds j v = (vs.set j v).toArray := List.setIfInBounds_toArray ..
    unfold Obj.mapSeq
    dsimp only
    rw [e]
    exact ⟨_, rfl⟩
  obtain ⟨n', e2⟩ := e2
  have fin : Q () { s with heap := s.heap.update l (Obj.mapSeq (·.setIfInBounds j v)) } :=
    hQ _ n' ((Heap.get?_update_self (h := s.heap) _ ho (by rw [e2]; rfl)).trans (congrArg some e2)) (Heap.SameBut.update ..)
  refine wpAny_bind (wpAny_setSeqItemAt ho rfl ?_)
  first
    | exact wpAny_bind (wpAny_pure (wpAny_pure ⟨.none, rfl, wpAny_pure fin⟩))
    | exact wpAny_pure ⟨.none, rfl, wpAny_pure fin⟩
end
end
end Mine
namespace Mine
open PySem PySem.W PySem.Calls PyProof.Rows
section
variable {Γ : GC} {c : FC} {C : Nat → List PV → Store → Out (PV × Store)}
theorem sx_put (gok : Γ.Ok) (cok : c.Ok Γ) {o i e : Expr} {pos' pos : Pos} {fo fi f : EV} (hc : isComp e = false) (he : SE Γ c (eval e c.env) f) (ho : SE Γ c (eval o c.env) fo) (hi : SE Γ c (eval i c.env) fi) :
    SX Γ c (exec (.Assign [.Subscript o i pos'] e pos) c.env) (fun env σ => (f env σ).bind fun r => (fo env r.2).bind fun q => (fi env q.2).bind fun t => match q.1, t.1 with
      | .loc j, .int k => (match t.2[j]? with
        | some l => if 0 ≤ k ∧ k < l.length then .ok (.next, env, t.2.set j (l.set k.toNat r.1)) else .stuck
        | none => .stuck)
      | _, _ => .stuck) := by
  intro env σ h tk news ls Q I hp
  refine wpAny_Assign_Subscript (he env σ h tk news ls _ I (PostF.ofBind hp fun r v h1 tk1 n1 l1 I1 R1 g1 hp1 => ?_)) (swaps_no hc _ _ _)
  refine ho env r.2 h1 tk1 n1 l1 _ I1 (PostF.ofBind hp1 fun q v2 h2 tk2 n2 l2 I2 R2 g2 hp2 => ?_)
  refine hi env q.2 h2 tk2 n2 l2 _ I2 (PostF.ofBind hp2 fun t v3 h3 tk3 n3 l3 I3 R3 g3 hp3 => ?_)
  have R1' := (R1.mono g2).mono g3
  have R2' := R2.mono g3
  obtain ⟨p2, σ2⟩ := q
  obtain ⟨p3, σ3⟩ := t
  dsimp only at *
  cases R2' with
  | @loc a j hj =>
    cases R3 with
    | int k t =>
      dsimp only at hp3
      cases hl : σ3[j]? with
      | none => simp only [hl] at hp3; exact hp3.elim
      | some l =>
        simp only [hl] at hp3
        split at hp3
        · rename_i hk
          obtain ⟨vs, n, hm, ra⟩ := I3.S.at' j a l hj hl
          have hln := ra.length
          have hsm := I3.S.small l (List.mem_of_getElem? hl)
          have hszl : szL = 16777216 := rfl
          refine setItem_lst (s := Γ.st h3 tk3) (vs := vs) (n := n) (I3.N _ hm).1 hk.1 (by omega) (by omega) fun h' n' ho' hs' => ?_
          obtain ⟨news', I', g⟩ := I3.turn gok cok hj hl hm hs' ho' (ra.set R1' k.toNat) (by simp; omega)
          exact hp3 _ h' tk3 news' l3 I' .next g
        · exact hp3.elim
    | _ => exact hp3.elim
  | _ => exact hp3.elim
/-- the heap grown but for one new address -/
theorem Inv.ext (cok : c.Ok Γ) {h h' : Heap} {env : Env'} {σ : Store} {news : List (Addr × Obj)} {ls : List Addr} (I : Inv Γ c h env σ news ls) (he : Heap.ExtBut h.objs.size h h') : Inv Γ c h' env σ news ls := by
  obtain ⟨⟨m, F, hm⟩, N, S, G⟩ := I
  exact ⟨⟨m, F.extBut he (Nat.le_refl _), hm⟩, N.extBut he (Nat.le_refl _), S, G⟩
theorem slots_len {X : CX} : ∀ {ts : List Expr} {ks : List Nat}, cSlots X ts = some ks → ts.length = ks.length
  | [], ks, h => by simp only [cSlots, Option.some.injEq] at h; subst h; rfl
  | t :: ts, ks, h => by
    cases t <;> simp only [cSlots, reduceCtorEq] at h
    simp only [Option.bind_eq_some_iff, Option.map_eq_some_iff] at h
    obtain ⟨k, _, r, hr, rfl⟩ := h
    simp [slots_len hr]
theorem setAll_len : ∀ {ks : List Nat} {vs : List PV} {env env' : Env'}, setAll ks vs env = some env' → ks.length = vs.length
  | [], [], _, _, _ => rfl
  | [], _ :: _, _, _, h => by simp [setAll] at h
  | _ :: _, [], _, _, h => by simp [setAll] at h
  | _ :: ks, _ :: vs, _, _, h => by
    simp only [setAll] at h
    simp [setAll_len h]
theorem slots_each {X : CX} {env : Env} : ∀ {ts : List Expr} {ks : List Nat}, cSlots X ts = some ks → (assignEach ts env).length = ks.length ∧ (assignEach ts env).findIdx? (·.1) = none
  | [], ks, h => by simp only [cSlots, Option.some.injEq] at h; subst h; exact ⟨rfl, rfl⟩
  | t :: ts, ks, h => by
    cases t <;> simp only [cSlots, reduceCtorEq] at h
    simp only [Option.bind_eq_some_iff, Option.map_eq_some_iff] at h
    obtain ⟨k, _, r, hr, rfl⟩ := h
    obtain ⟨h1, h2⟩ := slots_each (env := env) hr
    refine ⟨by simp [assignEach, h1], ?_⟩
    show List.findIdx? (·.1) ((false, _) :: assignEach ts env) = none
    rw [List.findIdx?_cons]
    simp only [h2]
    rfl
theorem inOrder_ok (cok : c.Ok Γ) {X : CX} (hsc : X.sc = c.cs) (hnm : X.nm = c.nm) : ∀ {ts : List Expr} {ks : List Nat} {vs : List Value} {ds : List PV} {env env' : Env'} {h : Heap} {tk : Nat} {σ : Store} {news : List (Addr × Obj)} {ls : List Addr} {Q : Unit → Shared → Prop},
    cSlots X ts = some ks → Inv Γ c h env σ news ls → RepA Γ.base Γ.ta news ls vs ds → setAll ks ds env = some env' → (∀ h' tk', Inv Γ c h' env' σ news ls → Q () (Γ.st h' tk')) →
    wpAny (model Γ.prog Γ.w) c.A (assignInOrder ((assignEach ts c.env).map (·.2)) vs) Q c.E (Γ.st h tk)
  | [], ks, vs, ds, env, env', h, tk, σ, news, ls, Q, hs, I, ra, he, hq => by
    simp only [cSlots, Option.some.injEq] at hs
    subst hs
    cases ds with
    | cons _ _ => simp [setAll] at he
    | nil =>
      simp only [setAll, Option.some.injEq] at he
      subst he
      cases ra
      exact wpAny_pure (hq h tk I)
  | t :: ts, ks, vs, ds, env, env', h, tk, σ, news, ls, Q, hs, I, ra, he, hq => by
    cases t <;> simp only [cSlots, reduceCtorEq] at hs
    rename_i x xp
    simp only [Option.bind_eq_some_iff, Option.map_eq_some_iff] at hs
    obtain ⟨k, hk, r, hr, rfl⟩ := hs
    cases ds with
    | nil => simp [setAll] at he
    | cons d ds =>
      simp only [setAll] at he
      cases ra with
      | @cons v vs _ _ rv ra =>
        show wpAny _ _ (assignInOrder (assign (.Name x xp) c.env :: (assignEach ts c.env).map (·.2)) (v :: vs)) _ _ _
        unfold assignInOrder
        refine wpAny_bind (wpAny_holding (wpAny_assign_Name (store_ok cok hsc hnm hk I rv fun h' tk' I' => ?_)))
        exact inOrder_ok cok hsc hnm hr I' ra he hq
section
variable {prog : Program} {w : World} {A : Around} {E : Value → Shared → Prop}
theorem draw_list {it t : Addr} {items : Array Value} (hne : t ≠ it) : ∀ (n i : Nat) (s : Shared) (Q : List Value → Shared → Prop), s.heap.IsListIter it t i → s.heap.IsList t items → i + n ≤ items.size →
    (∀ h', h'.IsListIter it t (i + n) → Heap.SameBut it s.heap h' → Q ((items.toList.drop i).take n) { s with heap := h' }) → wpAny (model prog w) A (draw (.ref it) n) Q E s
  | 0, i, s, Q, hit, _, _, hQ => by
    show wpAny _ _ (pure []) Q E s
    exact wpAny_pure (by simpa using hQ s.heap hit (Heap.SameBut.refl ..))
  | n + 1, i, s, Q, hit, ht, hle, hQ => by
    have hlt : i < items.size := by omega
    show wpAny _ _ (pyNext (.ref it) >>= _) Q E s
    refine wpAny_bind (wpAny_pyNext_list_item hit ht (x := items[i]) (by simp [hlt]) fun h₁ hit₁ hs₁ => ?_)
    refine wpAny_bind (wpAny_holding (draw_list hne n (i + 1) _ _ hit₁ (ht.extBut hs₁.extBut hne) (by omega) fun h₂ hit₂ hs₂ => wpAny_pure ?_))
    have hd : items.toList.drop i = items[i] :: items.toList.drop (i + 1) := by simp [List.drop_eq_getElem_cons, hlt]
    have := hQ h₂ (by rw [show i + (n + 1) = i + 1 + n by omega]; exact hit₂) (hs₁.trans hs₂)
    rw [hd, List.take_succ_cons] at this
    exact this
theorem unpackItems_list {s : Shared} {t : Addr} {items : Array Value} {Q : List Value → Shared → Prop} (hh : A.handled = none) (ht : s.heap.IsList t items)
    (hQ : ∀ h', Heap.ExtBut s.heap.objs.size s.heap h' → Q items.toList { s with heap := h' }) : wpAny (model prog w) A (unpackItems (.ref t) items.size none) Q E s := by
  have hlt : t ≠ s.heap.objs.size := by obtain ⟨o, ho, _⟩ := ht; exact Nat.ne_of_lt (Heap.lt_size ho)
  unfold unpackItems
  refine wpAny_bind ?_
  · unfold notIterableAtAll
    refine wpAny_bind (wpAny_specialOf ht.typeIs F.slot_list_iter.lookup ?_)
    refine wpAny_pure ?_
    simp only [Bool.false_eq_true, if_false]
    refine wpAny_bind (wpAny_holding (wpAny_pyIter_list ht ?_))
    refine wpAny_bind (wpAny_holding (draw_list hlt items.size 0 _ _ ⟨_, Heap.get?_push_size _ rfl, rfl, rfl⟩ (ht.push _) (by omega) fun h₁ hit₁ hs₁ => ?_))
    have hall : List.take items.size (List.drop 0 items.toList) = items.toList := by
      rw [List.drop_zero]; exact List.take_of_length_le (by simp)
    rw [hall]
    rw [if_neg (by simp)]
    have ht₁ : h₁.IsList t items := (ht.push _).extBut hs₁.extBut hlt
    refine wpAny_bind (wpAny_holding (wpAny_pyNext_list_end hh hit₁ ht₁ (by simp) fun h₂ he₂ => ?_))
    simp only [Option.isSome_none, Bool.false_eq_true, if_false]
    refine wpAny_pure (hQ h₂ fun b o hb e => he₂ b o hb (hs₁.extBut b o hb (Heap.get?_push_of_some _ e)))
theorem unpack_list {s : Shared} {env : Env} {elts : List Expr} {x1} {pos : Pos} {t : Addr} {items : Array Value} {Q : Unit → Shared → Prop} (hh : A.handled = none) (ht : s.heap.IsList t items)
    (hn : (assignEach elts env).length = items.size) (hstar : (assignEach elts env).findIdx? (·.1) = none)
    (h : ∀ h', Heap.ExtBut s.heap.objs.size s.heap h' → wpAny (model prog w) A (assignInOrder ((assignEach elts env).map (·.2)) items.toList) Q E { s with heap := h' }) :
    wpAny (model prog w) A (assign (.Tuple elts x1 pos) env (.ref t)) Q E s := by
  rw [PyProof.Rows.assign_Tuple]
  refine wpAny_bind (wpAny_standAt ?_)
  unfold unpack
  rw [hn, hstar]
  exact wpAny_bind (wpAny_holding (unpackItems_list hh ht h))
end
theorem swapped_no {ts : List Expr} {k : Nat} {tp : Pos} {e : Expr} {env : Env} (hd : isDisplay e = false) : swappedStores [.Tuple ts k tp] e env = pure none := by
  cases e <;> first | rfl | simp [isDisplay] at hd
theorem sx_asgT (gok : Γ.Ok) (cok : c.Ok Γ) {X : CX} (hsc : X.sc = c.cs) (hnm : X.nm = c.nm) {ts : List Expr} {ks : List Nat} {k : Nat} {tp pos : Pos} {e : Expr} {f : EV} (hk : cSlots X ts = some ks) (hd : isDisplay e = false) (hc : isComp e = false) (he : SE Γ c (eval e c.env) f) :
    SX Γ c (exec (.Assign [.Tuple ts k tp] e pos) c.env) (fun env σ => (f env σ).bind fun r => match (itemsP r.2 r.1).bind fun l => setAll ks l env with
      | some env' => .ok (.next, env', r.2)
      | none => .stuck) := by
  intro env σ h tk news ls Q I hp
  refine PyProof.Rows.Assign_Tuple (he env σ h tk news ls _ I (PostF.ofBind hp fun r v h1 tk1 n1 l1 I1 R1 g1 hp1 => ?_)) (swaps_no hc (some (.Tuple ts k tp)) pos.line c.env) (swapped_no hd)
  obtain ⟨pv, σ1⟩ := r
  dsimp only at *
  cases hq : (itemsP σ1 pv).bind fun l => setAll ks l env with
  | none => rw [hq] at hp1; exact hp1.elim
  | some env' =>
    rw [hq] at hp1
    obtain ⟨l, hl, hset⟩ := Option.bind_eq_some_iff.mp hq
    obtain ⟨hn, hst⟩ := slots_each (env := c.env) hk
    have hn2 := setAll_len hset
    cases R1 with
    | @tup a vs n ds hat ra =>
      simp only [itemsP, Option.some.injEq] at hl
      subst hl
      have hln := ra.length
      have ht : IsTup (Γ.st h1 tk1).heap a vs.toArray := ⟨_, I1.get gok cok _ _ hat, rfl, n, rfl⟩
      refine assign_Tuple_tuple rfl ht (by simp; omega) hst fun h' he' => ?_
      exact inOrder_ok cok hsc hnm hk (I1.ext cok he') ra hset fun h2 tk2 I2 => hp1 _ h2 tk2 n1 l1 I2 .next Grow.refl
    | @loc a j hj =>
      simp only [itemsP] at hl
      obtain ⟨vs, n, hm, ra⟩ := I1.S.at' j a l hj hl
      have hln := ra.length
      have ht : (Γ.st h1 tk1).heap.IsList a vs.toArray := ⟨_, (I1.N _ hm).1, rfl, n, rfl⟩
      refine unpack_list rfl ht (by simp; omega) hst fun h' he' => ?_
      exact inOrder_ok cok hsc hnm hk (I1.ext cok he') ra hset fun h2 tk2 I2 => hp1 _ h2 tk2 n1 l1 I2 .next Grow.refl
    | _ => simp [itemsP] at hl
theorem sx_while (cok : c.Ok Γ) {t : Expr} {b : List Stmt} {pos : Pos} {ft : ET} {fb : EX} (N : Nat) (ht : SB' Γ c (isTrue t c.env (eval t c.env)) ft) (hb : SX Γ c (execs b c.env) fb) :
    SX Γ c (exec (.While t b [] pos) c.env) (fun env σ => whileN ft fb N env σ) := by
  intro env σ h tk news ls Q I hp
  refine wpAny_While (codeAny_whileLoop (fun n s' => ∃ env1 σ1 h1 tk1 n1 l1, s' = Γ.st h1 tk1 ∧ Inv Γ c h1 env1 σ1 n1 l1 ∧ PostF Γ c n1 l1 Q (whileN ft fb n env1 σ1)) ?_ N ⟨env, σ, h, tk, news, ls, rfl, I, hp⟩)
  rintro n s' ⟨env1, σ1, h1, tk1, n1, l1, rfl, I1, hp1⟩
  cases n with
  | zero => exact hp1.elim
  | succ n =>
    unfold whileN at hp1
    refine wpAny_mono (ht env1 σ1 h1 tk1 n1 l1 (fun bb s₂ => if bb = true then wpAny (model Γ.prog Γ.w) c.A (execs b c.env) (fun f s₃ => match f with
        | .next | .cont => ∃ m, m < n + 1 ∧ ∃ env1 σ1 h1 tk1 n1 l1, s₃ = Γ.st h1 tk1 ∧ Inv Γ c h1 env1 σ1 n1 l1 ∧ PostF Γ c n1 l1 Q (whileN ft fb m env1 σ1)
        | .brk => Q .next s₃
        | .ret v => Q (.ret v) s₃) c.E s₂ else Q .next s₂) I1 (PostF.ofBind hp1 fun r v h2 tk2 n2 l2 I2 R2 g2 hp2 => ?_)) (fun bb s₂ h₂ => ?_) cok.hE
    · obtain ⟨bb, σ2⟩ := r
      cases R2
      cases bb with
      | false =>
        simp only [Bool.false_eq_true, if_false]
        exact hp2 _ h2 tk2 n2 l2 I2 .next Grow.refl
      | true =>
        simp only [if_true]
        dsimp only at hp2
        refine hb env1 σ2 h2 tk2 n2 l2 _ I2 (PostF.bind hp2 fun q f h3 tk3 n3 l3 I3 R3 g3 hp3 => ?_)
        obtain ⟨fl, env3, σ3⟩ := q
        dsimp only at *
        cases R3 with
        | next => exact ⟨n, Nat.lt_succ_self _, env3, σ3, h3, tk3, n3, l3, rfl, I3, hp3⟩
        | cont => exact ⟨n, Nat.lt_succ_self _, env3, σ3, h3, tk3, n3, l3, rfl, I3, hp3⟩
        | ret r => exact hp3 _ h3 tk3 n3 l3 I3 (.ret r) Grow.refl
    · cases bb with
      | false =>
        simp only [Bool.false_eq_true, if_false] at h₂ ⊢
        exact wpAny_execs_nil h₂
      | true =>
        simp only [if_true] at h₂ ⊢
        exact wpAny_mono h₂ (fun f s₃ h₃ => h₃) cok.hE
/-! loops over a range -/
def SeqLike (o : Obj) : Prop := ∃ vs n, o = tupO vs n ∨ o = lstO vs n
section
variable {base : Heap} {ta : Nat → Option Addr} {news news' : List (Addr × Obj)} {ls : List Addr}
mutual
theorem RepV.sub (g : ∀ a o, SeqLike o → (a, o) ∈ news → (a, o) ∈ news') : ∀ {v : Value} {d : PV}, RepV base ta news ls v d → RepV base ta news' ls v d
  | _, _, .none => .none
  | _, _, .bool b => .bool b
  | _, _, .int i t => .int i t
  | _, _, .str x t h k => .str x t h k
  | _, _, .tup h r => .tup (h.imp (fun h => ⟨g _ _ ⟨_, _, .inl rfl⟩ h.1, h.2⟩) id) (RepA.sub g r)
  | _, _, .list h r => .list (h.imp (fun h => ⟨g _ _ ⟨_, _, .inr rfl⟩ h.1, h.2⟩) id) (RepA.sub g r)
  | _, _, .loc h => .loc h
  | _, _, .tab h => .tab h
theorem RepA.sub (g : ∀ a o, SeqLike o → (a, o) ∈ news → (a, o) ∈ news') : ∀ {vs : List Value} {ds : List PV}, RepA base ta news ls vs ds → RepA base ta news' ls vs ds
  | _, _, .nil => .nil
  | _, _, .cons h r => .cons (RepV.sub g h) (RepA.sub g r)
end
theorem StoreOk.sub (g : ∀ a o, SeqLike o → (a, o) ∈ news → (a, o) ∈ news') {σ : Store} (S : StoreOk base ta news ls σ) : StoreOk base ta news' ls σ :=
  ⟨S.len, S.nodup, S.off, S.small, fun k a l h1 h2 => by
    obtain ⟨vs, n, h3, h4⟩ := S.at' k a l h1 h2
    exact ⟨vs, n, g _ _ ⟨_, _, .inr rfl⟩ h3, h4.sub g⟩⟩
end
def MRel (Γ : GC) (c : FC) (m : Str → Option Value) (env : Env') (news : List (Addr × Obj)) (ls : List Addr) : Prop :=
  ∀ (k : Nat) x pv, c.nm[k]? = some x → env.getD k none = some pv → ∃ v, m x = some v ∧ RepV Γ.base Γ.ta news ls v pv
theorem MRel.set (cok : c.Ok Γ) {m : Str → Option Value} {env : Env'} {news : List (Addr × Obj)} {ls : List Addr} {k : Nat} {x : Str} {v : Value} {pv : PV} (hm : MRel Γ c m env news ls) (hn : c.nm[k]? = some x) (r : RepV Γ.base Γ.ta news ls v pv) :
    MRel Γ c (fun y => if y = x then some v else m y) (env.set k (some pv)) news ls := by
  intro j y q hy hq
  by_cases hj : j = k
  · subst hj
    rw [hn] at hy
    cases hy
    show ∃ v_1, (if x = x then some v else m x) = some v_1 ∧ _
    rw [if_pos rfl]
    by_cases hl : j < env.length
    · rw [List.getD_eq_getElem?_getD, List.getElem?_set_self hl] at hq
      cases hq
      exact ⟨v, rfl, r⟩
    · rw [List.getD_eq_getElem?_getD, List.getElem?_eq_none (by simp; omega)] at hq
      cases hq
  · have hne : y ≠ x := fun e => by
      subst e
      exact hj (nodup_idx cok.nmnd hy hn)
    show ∃ v_1, (if y = x then some v else m y) = some v_1 ∧ _
    rw [if_neg hne]
    rw [List.getD_eq_getElem?_getD, List.getElem?_set_ne (Ne.symm hj), ← List.getD_eq_getElem?_getD] at hq
    exact hm j y q hy hq
theorem PostF.bind' {news n0 : List (Addr × Obj)} {ls l0 : List Addr} {Q Q' : Flow → Shared → Prop} {o : Out (Fl × Env' × Store)} {f : Fl × Env' × Store → Out (Fl × Env' × Store)} (hp : PostF Γ c news ls Q (o.bind f))
    (k : ∀ r v h' tk' n' l', Inv Γ c h' r.2.1 r.2.2 n' l' → RF Γ n' l' v r.1 → Grow n0 l0 n' l' → PostF Γ c news ls Q (f r) → Q' v (Γ.st h' tk')) : PostF Γ c n0 l0 Q' o := by
  cases o with
  | ok r => exact fun v h' tk' n2 l2 I rr g => k r v h' tk' n2 l2 I rr g hp
  | exc => exact hp
  | stuck => exact hp
theorem range_loop (gok : Γ.Ok) (cok : c.Ok Γ) {X : CX} (hsc : X.sc = c.cs) (hnm : X.nm = c.nm) {x : Str} {k : Nat} (hk : slot X x = some k) {body : List Stmt} {fb : EX} (hb : SX Γ c (execs body c.env) fb)
    {env : Env'} {σ : Store} {h : Heap} {tk : Nat} {news : List (Addr × Obj)} {ls : List Addr} {Q : Flow → Shared → Prop} {r : Addr} {a b : Int} {t u v : Tok}
    (I : Inv Γ c h env σ news ls) (hr : IsRange h r a b 1 t u v) (hab : -1000000000 < a ∧ a < 1000000000 ∧ -1000000000 < b ∧ b < 1000000000)
    (hp : PostF Γ c news ls Q (forN k fb (b - a).toNat a env σ)) :
    wpAny (model Γ.prog Γ.w) c.A (pyIter (.ref r)) (fun it s₂ => LoopAtV Γ.prog Γ.w c.A c.g c.env x body Q c.E it s₂) c.E (Γ.st h tk) := by
  obtain ⟨hl, hn, _⟩ := slot_of hk
  rw [hnm] at hn
  refine wpAny_pyIter_range (s := Γ.st h tk) hr (small_one (by omega) (by omega) (by omega) (by omega)) ?_
  have hsz : Builtin.Range.rangeSize a b 1 = (((b - a).toNat : Nat) : Int) := by
    rw [rangeSize_one]
    split <;> omega
  rw [hsz]
  obtain ⟨⟨m, F, hm⟩, N, S, G⟩ := id I
  obtain ⟨_, _, hoff⟩ := I.push { cls := .type "range_iterator", data := .fields #[rawInt a, rawInt ((b - a).toNat : Nat), rawInt 1] }
  have hLf : c.L ≠ h.objs.size := by
    obtain ⟨oL, a1, a2, hL, a3⟩ := F.ns
    exact Nat.ne_of_lt (Heap.lt_size hL)
  refine ⟨h.objs.size, [h.objs.size], [h.objs.size], (b - a).toNat, _, _, m, news,
    fun i m nx => i ≤ (b - a).toNat ∧ ∃ env1 σ1 l1, MRel Γ c m env1 nx l1 ∧ StoreOk Γ.base Γ.ta nx l1 σ1 ∧ Grow news ls nx l1 ∧ h.objs.size ∉ l1 ∧ PostF Γ c nx l1 Q (forN k fb ((b - a).toNat - i) (a + i) env1 σ1), rfl,
    Walks.range rfl h.objs.size a 1 (b - a).toNat, ?_, ?_, ?_, ?_, F.push _, ?_, ⟨Nat.zero_le _, env, σ, ls, hm, S, Grow.refl, fun hq => hoff _ hq rfl, ?_⟩, ?_, ?_⟩
  · exact fun hq => hLf (List.mem_singleton.mp hq)
  · intro b' hb'
    rw [List.mem_singleton.mp hb']
    cases hq : c.g.get? h.objs.size with
    | none => rfl
    | some o => exact absurd (Heap.lt_size (F.keep _ _ hq)) (Nat.lt_irrefl _)
  · intro p hp' hq
    have := Heap.lt_size (N p hp').1
    rw [List.mem_singleton.mp hq] at this
    exact absurd this (Nat.lt_irrefl _)
  · show IsRangeIter _ _ _ _ _
    have e1 : a + ((0 : Nat) : Int) * 1 = a := by simp
    have e2 : (((b - a).toNat : Nat) : Int) - ((0 : Nat) : Int) = ((b - a).toNat : Nat) := by simp
    rw [e1, e2]
    exact Heap.get?_push_size _ rfl
  · exact fun p hp' => ⟨Heap.get?_push_of_some _ (N p hp').1, (N p hp').2⟩
  · simpa using hp
  · rintro i v₁ m₁ nx s₁ own ⟨h₁, tk₁, rfl⟩ hin ⟨tt, rfl⟩ ⟨_, env1, σ1, l1, M1, S1, G1, hIl, hp1⟩ hnx hown hownv hmem hst F₁ N₁
    have hfresh : c.g.get? h.objs.size = none := by
      cases hq : c.g.get? h.objs.size with
      | none => rfl
      | some o => exact absurd (Heap.lt_size (F.keep _ _ hq)) (Nat.lt_irrefl _)
    have hIown := hmem h.objs.size (by simp) hfresh _ hst
    have gown : Grow nx l1 (own ++ nx) l1 := ⟨fun p hp' hn' => ⟨List.mem_append_right _ hp', hn'⟩, [], (List.append_nil _).symm⟩
    have r1 : RepV Γ.base Γ.ta (own ++ nx) l1 (.int (a + (i : Int) * 1) tt) (.int (a + i)) := by
      rw [Int.mul_one]; exact .int _ _
    have I1 : Inv Γ c h₁ (env1.set k (some (.int (a + i)))) σ1 (own ++ nx) l1 := by
      refine ⟨⟨_, F₁, MRel.set cok (fun j y q hy hq => ?_) hn r1⟩, N₁, ?_, (G.trans G1).trans gown⟩
      · obtain ⟨w', hw', rw'⟩ := M1 j y q hy hq
        exact ⟨w', hw', rw'.mono gown⟩
      · exact S1.sub fun a o _ hm' => List.mem_append_right _ hm'
    have en : (b - a).toNat - i = ((b - a).toNat - (i + 1)) + 1 := by omega
    rw [en] at hp1
    unfold forN at hp1
    refine hb _ σ1 h₁ tk₁ _ l1 _ I1 (PostF.bind' hp1 fun q f h2 tk2 n2 l2 I2 R2 g2 hp2 => ?_)
    have fin : ∀ env2 σ2, Inv Γ c h2 env2 σ2 n2 l2 → PostF Γ c nx l1 Q (forN k fb ((b - a).toNat - (i + 1)) (a + i + 1) env2 σ2) →
        LoopStepU c.g c.env.locals [h.objs.size] own (fun m nx => i + 1 ≤ (b - a).toNat ∧ ∃ env1 σ1 l1, MRel Γ c m env1 nx l1 ∧ StoreOk Γ.base Γ.ta nx l1 σ1 ∧ Grow news ls nx l1 ∧ h.objs.size ∉ l1 ∧ PostF Γ c nx l1 Q (forN k fb ((b - a).toNat - (i + 1)) (a + (i + 1 : Nat)) env1 σ1)) (Γ.st h₁ tk₁) .next (Γ.st h2 tk2) := by
      intro env2 σ2 I2 hp2
      obtain ⟨⟨m2, F2, M2⟩, N2, S2, G2⟩ := I2
      obtain ⟨hI2, hIl2⟩ := g2.keep _ (List.mem_append_left _ hIown) hIl
      have hsub : ∀ a o, SeqLike o → (a, o) ∈ n2 → (a, o) ∈ n2.filter fun p => p.1 != h.objs.size := by
        intro a' o' hs hm'
        refine List.mem_filter.mpr ⟨hm', ?_⟩
        simp only [bne_iff_ne, ne_eq]
        intro e
        subst e
        have e1 := (N2 _ hm').1
        have e2 := (N2 _ hI2).1
        rw [e1] at e2
        have e3 : o' = _ := Option.some.inj e2
        obtain ⟨vs, n, hs | hs⟩ := hs
        · rw [e3] at hs
          have := congrArg (fun o : Obj => o.data) hs; cases this
        · rw [e3] at hs
          have := congrArg (fun o : Obj => o.data) hs; cases this
      have gfil : Grow nx l1 (n2.filter fun p => p.1 != h.objs.size) l2 := by
        refine ⟨fun p hp' hn' => ?_, g2.live⟩
        obtain ⟨h3, h4⟩ := g2.keep p (List.mem_append_right _ hp') hn'
        refine ⟨List.mem_filter.mpr ⟨h3, ?_⟩, h4⟩
        simp only [bne_iff_ne, ne_eq]
        intro e
        exact hnx p hp' (by rw [e]; simp)
      refine ⟨rfl, h2, tk2, m2, n2.filter fun p => p.1 != h.objs.size, rfl, F2, ?_, ?_, by omega, env2, σ2, l2, ?_, S2.sub hsub, G1.trans gfil, hIl2, ?_⟩
      · intro p hp'
        rcases List.mem_append.mp hp' with q | q
        · have hpl : p.1 ∉ l1 := by
            rw [List.mem_singleton.mp (hown p q)]
            exact hIl
          exact N2 p (g2.keep p (List.mem_append_left _ q) hpl).1
        · exact N2 p (List.mem_filter.mp q).1
      · intro p hp' hq
        have := (List.mem_filter.mp hp').2
        rw [List.mem_singleton.mp hq] at this
        simp at this
      · intro j y q hy hq
        obtain ⟨w', hw', rw'⟩ := M2 j y q hy hq
        exact ⟨w', hw', rw'.sub hsub⟩
      · have e : a + ((i + 1 : Nat) : Int) = a + i + 1 := by omega
        rw [e]
        exact PostF.grow gfil hp2
    obtain ⟨fl, env2, σ2⟩ := q
    dsimp only at *
    cases R2 with
    | next => exact .next (fin _ _ I2 hp2)
    | cont => exact .cont (fin _ _ I2 hp2)
    | ret r => exact .ret (hp2 _ h2 tk2 n2 l2 I2 (.ret r) (gown.trans g2))
  · rintro h' tk' m' nx F' N' hnx ⟨_, env1, σ1, l1, M1, S1, G1, hIl, hp1⟩
    rw [Nat.sub_self] at hp1
    exact hp1 _ h' tk' nx l1 ⟨⟨m', F', M1⟩, N', S1, G.trans G1⟩ .next Grow.refl
end
end Mine
namespace Mine
open PySem PySem.W PySem.Calls PyProof.Rows
section
variable {Γ : GC} {c : FC} {C : Nat → List PV → Store → Out (PV × Store)}
abbrev forE (N : Nat) (k : Nat) (flo fhi : EV) (fb : EX) : EX := fun env σ => (flo env σ).bind fun r => (fhi env r.2).bind fun q => match r.1, q.1 with
      | .int x, .int y => if -1000000000 < x ∧ x < 1000000000 ∧ -1000000000 < y ∧ y < 1000000000 then forN k fb (y - x).toNat x env q.2 else .stuck
      | _, _ => .stuck
theorem hp_for (cok : c.Ok Γ) : (c.env.scope.kind == .class || (c.env.scope.kind == .module && c.env.locals != c.env.globals)) = false := by
  show (c.cs.kind == .class || (c.cs.kind == .module && c.L != mainGlobals)) = false
  rw [cok.kind]; rfl
theorem range_name (gok : Γ.Ok) (cok : c.Ok Γ) {np : Pos} {env : Env'} {σ : Store} {h : Heap} {tk : Nat} {news : List (Addr × Obj)} {ls : List Addr} {Q : Value → Shared → Prop} (I : Inv Γ c h env σ news ls) (hl : c.cs.names.lookup ("range" : Str) = some .globalImplicit)
    (hq : Q (.type "range") (Γ.st h tk)) : wpAny (model Γ.prog Γ.w) c.A (eval (.Name "range" np) c.env) Q c.E (Γ.st h tk) := by
  have hX := gok.X.keeps cok.B.stays
  obtain ⟨⟨m, F, hm⟩, N, S, G⟩ := id I
  exact name_Bx (s := Γ.st h tk) F hX (topRead_of (gok.T.keeps cok.B.stays)) gok.norange (by decide +kernel) (by decide +kernel) hq cok.kind hl (by decide +kernel)
theorem sx_for2 (gok : Γ.Ok) (cok : c.Ok Γ) {X : CX} (hsc : X.sc = c.cs) (hnm : X.nm = c.nm) {x : Str} {k : Nat} (hk : slot X x = some k) {lo hi : Expr} {flo fhi : EV} {body : List Stmt} {fb : EX} {px np cp pos : Pos} (N : Nat)
    (hl : c.cs.names.lookup ("range" : Str) = some .globalImplicit) (hlo : SE Γ c (eval lo c.env) flo) (hhi : SE Γ c (eval hi c.env) fhi) (s1 : isStar lo = false) (s2 : isStar hi = false) (hb : SX Γ c (execs body c.env) fb) :
    SX Γ c (exec (.For (.Name x px) (.Call (.Name "range" np) [lo, hi] [] cp) body [] pos) c.env) (forE N k flo fhi fb) := by
  intro env σ h tk news ls Q I hp
  obtain ⟨hxl, hn, _⟩ := slot_of hk
  rw [hsc] at hxl
  refine For_invV c.g hxl (hp_for cok) ?_ (fun _ => rfl) cok.hE
  refine Call_ (range_name gok cok I hl ?_)
  refine PyProof.Rows.callWith_type1 ?_ (star_cons s1) (no_star [hi] fun e he => by rw [List.mem_singleton.mp he]; exact s2)
  refine args_cons (he := star_cons s1) (hlo env σ h tk news ls _ I (PostF.ofBind hp fun r v h1 tk1 n1 l1 I1 R1 g1 hp1 => ?_))
  refine args_cons (he := star_cons s2) (hhi env r.2 h1 tk1 n1 l1 _ I1 (PostF.ofBind hp1 fun q v2 h2 tk2 n2 l2 I2 R2 g2 hp2 => ?_))
  refine args_nil ?_
  obtain ⟨p1, σ1⟩ := r
  obtain ⟨p2, σ2⟩ := q
  dsimp only at *
  cases R1 with
  | int a t =>
    cases R2 with
    | int b u =>
      dsimp only at hp2
      split at hp2
      · rename_i hab
        refine call_range_2 (s := Γ.st h2 tk2) ?_
        obtain ⟨I3, g3, _⟩ := I2.push { cls := .type "range", data := .fields #[.int a t, .int b u, .int 1 (Γ.st h2 tk2).toks] }
        exact range_loop gok cok hsc hnm hk hb I3 (IsRange.new h2 a b 1 t u _) hab (PostF.grow g3 hp2)
      · exact hp2.elim
    | _ => exact hp2.elim
  | _ => exact hp2.elim
theorem sx_for1 (gok : Γ.Ok) (cok : c.Ok Γ) {X : CX} (hsc : X.sc = c.cs) (hnm : X.nm = c.nm) {x : Str} {k : Nat} (hk : slot X x = some k) {hi : Expr} {fhi : EV} {body : List Stmt} {fb : EX} {px np cp pos : Pos} (N : Nat)
    (hl : c.cs.names.lookup ("range" : Str) = some .globalImplicit) (hhi : SE Γ c (eval hi c.env) fhi) (s2 : isStar hi = false) (hb : SX Γ c (execs body c.env) fb) :
    SX Γ c (exec (.For (.Name x px) (.Call (.Name "range" np) [hi] [] cp) body [] pos) c.env) (forE N k (fun _ σ => .ok (.int 0, σ)) fhi fb) := by
  intro env σ h tk news ls Q I hp
  obtain ⟨hxl, hn, _⟩ := slot_of hk
  rw [hsc] at hxl
  refine For_invV c.g hxl (hp_for cok) ?_ (fun _ => rfl) cok.hE
  refine Call_ (range_name gok cok I hl ?_)
  refine PyProof.Rows.callWith_type1 ?_ (star_cons s2) (no_star [] fun e he => nomatch he)
  replace hp : PostF Γ c news ls Q ((fhi env σ).bind fun q => match q.1 with
      | .int y => if -1000000000 < (0 : Int) ∧ (0 : Int) < 1000000000 ∧ -1000000000 < y ∧ y < 1000000000 then forN k fb (y - 0).toNat 0 env q.2 else .stuck
      | _ => .stuck) := by
    have e : forE N k (fun _ σ => .ok (.int 0, σ)) fhi fb env σ = ((fhi env σ).bind fun q => match q.1 with
      | .int y => if -1000000000 < (0 : Int) ∧ (0 : Int) < 1000000000 ∧ -1000000000 < y ∧ y < 1000000000 then forN k fb (y - 0).toNat 0 env q.2 else .stuck
      | _ => .stuck) := by
      unfold forE
      simp only [Out.bind]
      cases fhi env σ with
      | ok q => obtain ⟨p, σ'⟩ := q; cases p <;> rfl
      | exc => rfl
      | stuck => rfl
    rw [e] at hp; exact hp
  refine args_cons (he := star_cons s2) (hhi env σ h tk news ls _ I (PostF.ofBind hp fun q v2 h2 tk2 n2 l2 I2 R2 g2 hp2 => ?_))
  refine args_nil ?_
  obtain ⟨p2, σ2⟩ := q
  dsimp only at *
  cases R2 with
  | int b u =>
    dsimp only at hp2
    split at hp2
    · rename_i hab
      refine call_range_1 (s := Γ.st h2 tk2) ?_
      obtain ⟨I3, g3, _⟩ := I2.push { cls := .type "range", data := .fields #[.int 0 (Γ.st h2 tk2).toks, .int b u, .int 1 ((Γ.st h2 tk2).toks + 1)] }
      exact range_loop gok cok hsc hnm hk hb I3 (IsRange.new h2 0 b 1 _ u _) hab (PostF.grow g3 hp2)
    · exact hp2.elim
  | _ => exact hp2.elim
/-- an own exception can be raised -/
def RaiseOk (Γ : GC) (c : FC) : Prop := ∀ (i : Nat) (x : Str), i < 2 → (if i = 0 then ("LexFault" : Str) else "SyntaxFault") = x → ∀ {np cp pos : Pos} {args : List Expr} {f : Env' → Store → Out (List PV × Store)},
  c.cs.names.lookup x = some .globalImplicit → args.length = 2 - i → (∀ e ∈ args, isStar e = false) → (∀ env σ r, f env σ = .ok r → r.1.length = args.length) → (∀ p, SL Γ c (spliced (backTo p (starEach args c.env))) f) →
    SX Γ c (exec (.Raise (some (.Call (.Name x np) args [] cp)) none pos) c.env) (fun env σ => (f env σ).bind fun _ => .exc)
/-- each statement, and each row of them -/
theorem rows_ok {X : CX} {f : Stmt → Option PS} {N : Nat} (IH : ∀ s p, f s = some p → SX Γ c (exec s c.env) (ex C N p)) : ∀ ss p, cSL f ss = some p → SX Γ c (execs ss c.env) (exs C N p)
  | [], p, h => by
    simp only [cSL, Option.some.injEq] at h
    subst h
    intro env σ h0 tk news ls Q I hp
    exact wpAny_execs_nil (hp _ h0 tk news ls I .next Grow.refl)
  | s :: r, p, h => by
    simp only [cSL, Option.bind_eq_some_iff, Option.map_eq_some_iff] at h
    obtain ⟨a, ha, b, hb, rfl⟩ := h
    intro env σ h0 tk news ls Q I hp
    unfold exs at hp
    refine wpAny_execs_cons (IH s a ha env σ h0 tk news ls _ I (PostF.bind hp fun q f h1 tk1 n1 l1 I1 R1 g1 hp1 => ?_))
    obtain ⟨fl, env1, σ1⟩ := q
    dsimp only at *
    cases R1 with
    | next => exact rows_ok (X := X) IH r b hb env1 σ1 h1 tk1 n1 l1 Q I1 hp1
    | cont => exact hp1 _ h1 tk1 n1 l1 I1 .cont Grow.refl
    | ret r => exact hp1 _ h1 tk1 n1 l1 I1 (.ret r) Grow.refl
theorem cSlots_ok : True := trivial
theorem sound_S (gok : Γ.Ok) (cok : c.Ok Γ) (hC : CallOk Γ c C) (hR : RaiseOk Γ c) {X : CX} (hsc : X.sc = c.cs) (hnm : X.nm = c.nm) (hdn : X.dn = dnames) (hgc : X.gc = consts) (N : Nat) :
    ∀ n s p, cS X n s = some p → SX Γ c (exec s c.env) (ex C N p) := by
  intro n
  induction n with
  | zero => intro s p h; simp [cS] at h
  | succ n IH =>
    have HE := sound_E gok cok hC hsc hnm hdn hgc n
    have he1 : ∀ e pe, cE X n e = some pe → SE Γ c (eval e c.env) (ev C pe).1 := fun e pe h => (HE e pe h).1
    have het : ∀ e pe, cE X n e = some pe → SB' Γ c (isTrue e c.env (eval e c.env)) (ev C pe).2 := fun e pe h => (HE e pe h).2.1
    have hes : ∀ e pe, cE X n e = some pe → isStar e = false := fun e pe h => (HE e pe h).2.2
    have HL := rows_ok (X := X) (N := N) IH
    have hglob : ∀ {x : Str}, isGlob X x = true → c.cs.names.lookup x = some .globalImplicit := by
      intro x h
      unfold isGlob at h
      simp only [Bool.and_eq_true, beq_iff_eq, Bool.not_eq_true'] at h
      rw [← hsc]; exact h.1
    intro s p h
    cases s with
    | Assign ts e pos =>
      cases ts with
      | nil => simp [cS] at h
      | cons t ts =>
        cases ts with
        | cons _ _ => cases t <;> simp [cS] at h
        | nil =>
          cases t with
          | Name x xp =>
            simp only [cS, Option.bind_eq_some_iff, Option.map_eq_some_iff] at h
            obtain ⟨k, hk, pe, hpe, rfl⟩ := h
            simp only [ex]
            exact sx_asg cok hsc hnm hk (cE_comp hpe) (he1 _ _ hpe)
          | Tuple ts kk tp =>
            simp only [cS] at h
            split at h
            · cases h
            · rename_i hd
              simp only [Option.bind_eq_some_iff, Option.map_eq_some_iff] at h
              obtain ⟨ks, hk, pe, hpe, rfl⟩ := h
              simp only [ex]
              exact sx_asgT gok cok hsc hnm hk (by simpa using hd) (cE_comp hpe) (he1 _ _ hpe)
          | Subscript o i sp =>
            simp only [cS] at h
            split at h
            · cases h
            · simp only [Option.bind_eq_some_iff, Option.map_eq_some_iff] at h
              obtain ⟨o', ho, i', hi, pe, hpe, rfl⟩ := h
              simp only [ex]
              exact sx_put gok cok (cE_comp hpe) (he1 _ _ hpe) (he1 _ _ ho) (he1 _ _ hi)
          | _ => simp [cS] at h
    | AugAssign t op e pos =>
      cases t with
      | Name x xp =>
        simp only [cS, Option.bind_eq_some_iff] at h
        obtain ⟨k, hk, o, ho, h⟩ := h
        split at h
        · rename_i ho'
          obtain ⟨pe, hpe, rfl⟩ := Option.map_eq_some_iff.mp h
          simp only [ex]
          exact sx_aug gok cok hsc hnm hk ho ho' (he1 _ _ hpe)
        · cases h
      | _ => simp [cS] at h
    | If t a b pos =>
      simp only [cS, Option.bind_eq_some_iff, Option.map_eq_some_iff] at h
      obtain ⟨t', ht, a', ha, b', hb, rfl⟩ := h
      simp only [ex]
      exact sx_if (het _ _ ht) (HL _ _ ha) (HL _ _ hb)
    | While t b o pos =>
      cases o with
      | cons _ _ => simp [cS] at h
      | nil =>
        simp only [cS, Option.bind_eq_some_iff, Option.map_eq_some_iff] at h
        obtain ⟨t', ht, b', hb, rfl⟩ := h
        simp only [ex]
        exact sx_while cok N (het _ _ ht) (HL _ _ hb)
    | For t it b o pos =>
      cases o with
      | cons _ _ => cases t <;> cases it <;> simp [cS] at h
      | nil =>
        cases t with
        | Name x xp =>
          cases it with
          | Call fn args kws cp =>
            cases kws with
            | cons _ _ => cases fn <;> simp [cS] at h
            | nil =>
              cases fn with
              | Name f np =>
                simp only [cS] at h
                split at h
                · rename_i hc
                  simp only [Bool.and_eq_true, beq_iff_eq] at hc
                  obtain ⟨⟨hg, hf⟩, _⟩ := hc
                  subst hf
                  have hl := hglob hg
                  obtain ⟨k, hk, h⟩ := Option.bind_eq_some_iff.mp h
                  match args, h with
                  | [hi], h =>
                    simp only [Option.bind_eq_some_iff, Option.map_eq_some_iff] at h
                    obtain ⟨hi', hhi, b', hb, rfl⟩ := h
                    exact sx_for1 gok cok hsc hnm hk N hl (he1 _ _ hhi) (hes _ _ hhi) (HL _ _ hb)
                  | [lo, hi], h =>
                    simp only [Option.bind_eq_some_iff, Option.map_eq_some_iff] at h
                    obtain ⟨lo', hlo, hi', hhi, b', hb, rfl⟩ := h
                    exact sx_for2 gok cok hsc hnm hk N hl (he1 _ _ hlo) (he1 _ _ hhi) (hes _ _ hlo) (hes _ _ hhi) (HL _ _ hb)
                  | [], h => cases h
                  | _ :: _ :: _ :: _, h => cases h
                · cases h
              | _ => simp [cS] at h
          | _ => simp [cS] at h
        | _ => cases it <;> simp [cS] at h
    | Return e pos =>
      cases e with
      | none => simp [cS] at h
      | some e =>
        simp only [cS, Option.map_eq_some_iff] at h
        obtain ⟨pe, hpe, rfl⟩ := h
        simp only [ex]
        exact sx_ret (he1 _ _ hpe)
    | Raise e f pos =>
      cases f with
      | some _ => cases e with
        | none => simp [cS] at h
        | some e => cases e <;> simp [cS] at h
      | none =>
        cases e with
        | none => simp [cS] at h
        | some e =>
          cases e with
          | Call fn args kws cp =>
            cases kws with
            | cons _ _ => cases fn <;> simp [cS] at h
            | nil =>
              cases fn with
              | Name x np =>
                simp only [cS] at h
                split at h
                · rename_i hg
                  obtain ⟨es, hes', h⟩ := Option.bind_eq_some_iff.mp h
                  obtain ⟨hv, _, _, _, hvl⟩ := lists_ok gok cok HE args es hes'
                  have hst : ∀ e ∈ args, isStar e = false := fun e he => by
                    obtain ⟨pe, hpe⟩ := cL_mem hes' e he
                    exact hes e pe hpe
                  split at h
                  · rename_i hx
                    simp only [Bool.and_eq_true, beq_iff_eq, decide_eq_true_eq] at hx
                    cases h
                    simp only [ex]
                    exact hR 0 x (by omega) hx.1.symm (hglob hg) hx.2 hst hvl hv
                  · split at h
                    · rename_i hx
                      simp only [Bool.and_eq_true, beq_iff_eq, decide_eq_true_eq] at hx
                      cases h
                      simp only [ex]
                      exact hR 1 x (by omega) hx.1.symm (hglob hg) hx.2 hst hvl hv
                    · cases h
                · cases h
              | _ => simp [cS] at h
          | _ => simp [cS] at h
    | Expr e pos =>
      simp only [cS, Option.map_eq_some_iff] at h
      obtain ⟨pe, hpe, rfl⟩ := h
      simp only [ex]
      exact sx_exp cok (cE_comp hpe) (he1 _ _ hpe)
    | Continue pos =>
      simp only [cS, Option.some.injEq] at h
      subst h
      intro env σ h0 tk news ls Q I hp
      exact wpAny_Continue (hp _ h0 tk news ls I .cont Grow.refl)
    | _ => simp [cS] at h
end
end Mine
namespace Mine
open PySem PySem.W PySem.Calls PyProof.Rows
abbrev bmE : List Value := [.type "Exception", .type "BaseException", .type "object"]
def HasE (bm : List Value) : Prop := ∀ X b, bmE.contains (.type X) = b → bm.contains (.type X) = b
theorem HasE.base : HasE bmE := fun _ _ h => h
theorem HasE.own {a : Addr} {bm : List Value} (h : HasE bm) : HasE (.ref a :: bm) := fun X b hb => by
  rw [List.contains_cons, h X b hb]; rfl
abbrev FE := PySem.F.excBase_Exception
section
variable {h : Heap} {g : Array GenState} {d : Drawn} {t : Nat} {os : OsState}
variable {nm q : Str} {C N : Addr} {bs bm : List Value} {hdct : Bool} {sn : List Str} {sub : List Value} {ab : Bool} {col : Option Bool} {dd : Option Addr} {k0 k1 k2 k3 k5 : Option Value}
abbrev clsO (nm q : Str) (C N : Addr) (bs bm : List Value) (hdct : Bool) (sn : List Str) (sub : List Value) (ab : Bool) (col : Option Bool) (dd : Option Addr) (k0 k1 k2 k3 k5 : Option Value) : Obj := excClassObj nm q C N bs bm hdct sn sub ab col dd k0 k1 k2 k3 k5 "Exception.__new__"
theorem check_new_own {M : Model} {A : Around} {E : Value → Shared → Prop} (T : HasE bm) {rest : List Value} {Q : Unit → Shared → Prop} (hC : h.get? C = some (clsO nm q C N bs bm hdct sn sub ab col dd k0 k1 k2 k3 k5))
    (hq : Q () ⟨h, g, d, t, os⟩) : wpAny M A (checkBuiltinCall "Exception.__new__" ⟨.ref C :: rest, []⟩) Q E ⟨h, g, d, t, os⟩ := by
  have hcont : (Value.ref C :: bm).contains (.type "Exception") = true := by rw [List.contains_cons, T _ _ FE.hasB, Bool.or_true]
  have hstar := FE.noStar
  simp only [checkBuiltinCall, FE.newKind, FE.newSplit, FE.newRow]
  repeat (first | refine wpAny_loadPart_at hC ?_ | (refine wpAny_isSubtype_exc hC ?_; rw [hcont]) | refine wpAny_staticBase_exc hC ?_ | refine wpAny_madeBy_exc hC ?_ | simp only [bne_self_eq_false, Bool.false_eq_true, if_false] | wp_step)
  exact hq
theorem exc_new_own {prog : Program} {w : World} {A : Around} {R : Result → Shared → Prop} (T : HasE bm) {rest : List Value} (hC : h.get? C = some (clsO nm q C N bs bm hdct sn sub ab col dd k0 k1 k2 k3 k5))
    (hq : R (.ok (.ret (.ref (h.objs.size + 1)))) ⟨(h.push { cls := .type "tuple", data := .seq rest.toArray }).push
      { cls := .ref C, data := .fields #[.ref h.objs.size, .none, .none, .none, .bool false, .none] }, g, d, t, os⟩) (hrest : rest.length ≤ sizeLine) :
    codeAny (model prog w) A (.builtin "Exception.__new__" ⟨.ref C :: rest, []⟩) R ⟨h, g, d, t, os⟩ := by
  have hends := FE.ends
  have hcB : (Value.ref C :: bm).contains (.type "Exception") = true := by rw [List.contains_cons, T _ _ FE.hasB, Bool.or_true]
  have hcA : (Value.ref C :: bm).contains (.type "AttributeError") = false := by rw [List.contains_cons, T _ _ FE.noAttr]; rfl
  have hcN : (Value.ref C :: bm).contains (.type "NameError") = false := by rw [List.contains_cons, T _ _ FE.noName]; rfl
  refine codeAny_builtinAt FE.entry ?_
  unfold Builtin.«BaseException.__new__»
  refine PySem.wpAt_bind ?_
  show PySem.wpAt _ _ _ (stack >>= _) _ _ _
  refine PySem.wpAt_bind (PySem.wpAt_stack fun p below => PySem.wpAt_of_wpAny ?_)
  wp_walk
  refine PySem.wpAt_of_wpAny ?_
  rw [FE.owner]
  repeat (first | with_reducible refine wpAny_madeHere_exc FE.canon hC ?_ | with_reducible refine wpAny_loadPart_at hC ?_ | (with_reducible refine wpAny_isSubtype_exc hC ?_; first | rw [hcB] | rw [hcA] | rw [hcN]) | wp_step)
  show R _ _
  rw [Heap.size_push]
  exact hq
abbrev excO (C : Addr) (t : Addr) (dd : Option Addr) : Obj := { cls := .ref C, dict := dd, data := .fields #[.ref t, .none, .none, .none, .bool false, .none] }
theorem type_call_own {prog : Program} {w : World} {A : Around} {E : Value → Shared → Prop} {K : Frag} {fI : Addr} (X : K.In h) (hi : findIn K (.ref C) "__init__" = some (some (.ref fI))) (hf : typeIn K (.ref fI) = some (.type "function")) (T : HasE bm) {rest : List Value} {Q : Fin → Shared → Prop}
    (hC : h.get? C = some (clsO nm q C N bs bm hdct sn sub ab col dd k0 k1 k2 k3 k5))
    (hq : wpAny (model prog w) A (call (.ref fI) (.ref (h.objs.size + 1) :: rest)) (fun v s' => v = .none ∧ Q (.done (.ret (.ref (h.objs.size + 1)))) s') E ⟨(h.push { cls := .type "tuple", data := .seq rest.toArray }).push (excO C h.objs.size none), g, d, t, os⟩) (hrest : rest.length ≤ sizeLine) :
    wpAny (model prog w) A (Builtin.«type.__call__» ⟨.ref C :: rest, []⟩) Q E ⟨h, g, d, t, os⟩ := by
  repeat (first | with_reducible refine wpAny_loadPart_at hC ?_ | with_reducible refine wpAny_madeBy_exc hC ?_ | wp_step)
  refine codeAny_call_builtin_code (Code.quiet_builtin _ FE.quiet) (check_new_own T hC ?_)
  refine exc_new_own T hC ?_ hrest
  show wpAny _ _ _ _ _ _
  have hC₁ := Heap.get?_push_of_some (excO C h.objs.size none)
    (Heap.get?_push_of_some { cls := .type "tuple", data := .seq rest.toArray } hC)
  have hget : ((h.push { cls := .type "tuple", data := .seq rest.toArray }).push (excO C h.objs.size none)).get? (h.objs.size + 1) = some (excO C h.objs.size none) := by heap_get
  have hcC : (Value.ref C :: bm).contains (.ref C) = true := by simp
  have X₁ : K.In ((h.push { cls := .type "tuple", data := .seq rest.toArray }).push (excO C h.objs.size none)) := X.keeps fun b o e => Heap.get?_push_of_some _ (Heap.get?_push_of_some _ e)
  unfold isInstance
  repeat (first | with_reducible refine wpAny_loadPart_at hget ?_ | (with_reducible refine wpAny_isSubtype_exc hC₁ ?_; rw [hcC]) | wp_step)
  show wpAny _ _ (typeLookup (.ref C) _) _ _ _
  refine (looks_findIn X₁ hi).at ?_
  refine wpAny_holding (wpAny_bind ((bind_fn X₁ _ hf).at ?_))
  refine wpAny_bind (wpAny_mono hq (fun v s' hv => ?_) fun _ _ x => x)
  obtain ⟨rfl, hv⟩ := hv
  first | exact wpAny_pure (wpAny_pure hv) | (wp_walk; exact hv) | trace_state
theorem call_own {prog : Program} {w : World} {A : Around} {E : Value → Shared → Prop} {K : Frag} {fI : Addr} (X : K.In h) (hi : findIn K (.ref C) "__init__" = some (some (.ref fI))) (hf : typeIn K (.ref fI) = some (.type "function")) (T : HasE bm) {rest : List Value} {Q : Value → Shared → Prop}
    (hC : h.get? C = some (clsO nm q C N bs bm hdct sn sub ab col dd k0 k1 k2 k3 k5))
    (hq : wpAny (model prog w) (A.under (.builtin "type.__call__" ⟨.ref C :: rest, []⟩)) (call (.ref fI) (.ref (h.objs.size + 1) :: rest)) (fun v s' => v = .none ∧ Q (.ref (h.objs.size + 1)) s') E ⟨(h.push { cls := .type "tuple", data := .seq rest.toArray }).push (excO C h.objs.size none), g, d, t, os⟩) (hrest : rest.length ≤ sizeLine) :
    wpAny (model prog w) A (call (.ref C) rest) Q E ⟨h, g, d, t, os⟩ := by
  have f1 := tc_lookup
  have f2 := tc_bind (.ref C)
  have hT : (⟨h, g, d, t, os⟩ : Shared).TypeIs (.ref C) "type" := ⟨_, hC, rfl⟩
  refine wpAny_call (codeAny_of_tree ?_)
  show wpAny _ _ (callAny (.ref C) _) _ _ _
  repeat (any_goals (first | assumption | with_reducible refine wpAny_loadPart_at hC ?_ | wp_step))
  refine ⟨rfl, ?_⟩
  refine codeAny_call_builtin_at (Code.quiet_builtin _ (by decide +kernel)) entry_typeCall (wpAny_check_type_call_sub hC (type_call_own X hi hf T hC ?_ hrest))
  exact hq
end
end Mine
namespace Mine
open PySem PySem.W PySem.Calls PyProof.Rows Builtin Builtin.ObjectAttr
theorem pass_E (self : Value) : refuseLoop self "__setattr__" bmE = pure () := by kernel_rfl
def PassE (bm : List Value) : Prop := ∀ self, refuseLoop self "__setattr__" bm = pure ()
theorem PassE.base : PassE bmE := pass_E
theorem PassE.own {a : Addr} {bm : List Value} (h : PassE bm) : PassE (.ref a :: bm) := fun self => by rw [refuseLoop_ref]; exact h self
section
variable {prog : Program} {w : World} {A : Around} {E : Value → Shared → Prop} {h : Heap} {g : Array GenState} {d : Drawn} {t : Nat} {os : OsState}
variable {nm q : Str} {C N x : Addr} {bs bm : List Value} {sn : List Str} {sub : List Value} {ab : Bool} {col : Option Bool} {dd : Option Addr} {k0 k1 k2 k3 k5 : Option Value}
  {name : Str} {v : Value} {K : Frag}
theorem check_sa {M : Model} {o : Obj} {nameV : Value} {Q : Unit → Shared → Prop} (T : HasE bm)
    (hC : h.get? C = some (clsO nm q C N bs bm true sn sub ab col dd k0 k1 k2 k3 k5)) (hx : h.get? x = some o) (hc : o.cls = .ref C) (hq : Q () ⟨h, g, d, t, os⟩) :
    wpAny M A (checkBuiltinCall "object.__setattr__" ⟨[.ref x, nameV, v], []⟩) Q E ⟨h, g, d, t, os⟩ := by
  have SF := PySem.F.store_object
  have hcB : (Value.ref C :: bm).contains (.type "object") = true := by rw [List.contains_cons, T "object" true (by decide +kernel), Bool.or_true]
  have ha := SF.args (.ref x) nameV v
  simp only [checkBuiltinCall, SF.kind, SF.split]
  refine wpAny_bind ?_
  · unfold isInstance
    repeat (first | (with_reducible refine wpAny_loadPart_at hx ?_; rw [hc]) | (with_reducible refine wpAny_isSubtype_exc hC ?_; rw [hcB]) | wp_step)
    all_goals exact hq
theorem set_first {Q : Unit → Shared → Prop} {o : Obj} (T : HasE bm) (P : PassE bm) (X : K.In h)
    (hC : h.get? C = some (clsO nm q C N bs bm true sn sub ab col dd k0 k1 k2 k3 k5)) (hs : findIn K (.ref C) "__setattr__" = some (some (.builtin "object.__setattr__"))) (hna : findIn K (.ref C) name = some none)
    (hx : h.get? x = some o) (hc : o.cls = .ref C) (hnc : ∀ c, o.data ≠ .cls c) (hdn : o.dict = none) (hfr : o.isFreed = false)
    (hq : ∀ h' tk', h'.Ns1 h.objs.size (fun y => if y = name then some v else none) → (∀ b ob, b ≠ x → h.get? b = some ob → h'.get? b = some ob) → h'.get? x = some { o with dict := some h.objs.size } → Q () ⟨h', g, d, tk', os⟩) :
    wpAny (model prog w) A (setAttr (.ref x) name v) Q E ⟨h, g, d, t, os⟩ := by
  have SF := PySem.F.store_object
  have f3 := SF.slot.bind (.ref x)
  have hpass := P (.ref x)
  unfold setAttr callSpecial? specialOf
  repeat (any_goals (first | assumption | (with_reducible refine wpAny_loadPart_at hx ?_; rw [hc]) | (with_reducible refine (looks_findIn X hs).at ?_) | wp_step))
  refine codeAny_call_builtin SF.slot.plain SF.entry (check_sa T hC hx hc ?_)
  unfold Builtin.«object.__setattr__»
  repeat (first | rw [refuse_eq] | (rw [refuseLoop_ref, hpass]) | (with_reducible refine wpAny_loadPart_at hx ?_; rw [hc]) | with_reducible refine wpAny_mroOf_exc hC ?_ | (with_reducible refine (looks_findIn X hna).at ?_) | wp_step)
  rw [hdn, if_neg (by simp [typeHasDict])]
  split
  · rename_i hcd
    cases hcd
  split
  · rename_i c hcd
    exact absurd hcd (hnc c)
  · have hx₁ : (h.push { cls := .type "dict", data := .dict #[] }).get? x = some o := Heap.get?_push_of_some _ hx
    have hxs : x ≠ h.objs.size := Nat.ne_of_lt (Heap.lt_size hx)
    refine wpAny_bind (wpAny_alloc' ?_)
    refine wpAny_bind (wpAny_update' hx₁ ?_)
    refine wpAny_pure ?_
    have hgd : ((h.push { cls := .type "dict", data := .dict #[] }).update x fun o => { cls := o.cls, dict := some h.objs.size, data := o.data, slots := o.slots }).get? h.objs.size
        = some { cls := .type "dict", data := .dict #[] } :=
      (Heap.get?_update_ne _ _ _ _ hxs.symm).trans (Heap.get?_push_at rfl rfl)
    have hnd : ((h.push { cls := .type "dict", data := .dict #[] }).update x fun o => { cls := o.cls, dict := some h.objs.size, data := o.data, slots := o.slots }).Ns h.objs.size (fun _ => none) :=
      ⟨_, #[], _, hgd, rfl, fun e he => absurd he (by simp), fun _ => rfl⟩
    show wpAny _ _ (storeInDict h.objs.size (.str name _) name v) _ _ _
    unfold storeInDict newKeyGuard
    refine wpAny_bind (wpAny_pure (wpAny_bind (wpAny_nsSet1 (Heap.Ns1.of_empty hnd) fun h' hn' hs => ?_)))
    obtain ⟨oD, esD, epD, hoD, hdD, hcD⟩ := hn'.count (Within.cons name v Within.nil)
    refine wpAny_bind (wpAny_lookBehind hoD (by rw [hdD]; exact pastItsLine_dict (Nat.le_trans hcD (by rw [List.length_cons, List.length_nil, sizeLine_eq]; omega))) ?_)
    wp_walk
    have hx' : h'.get? x = some { o with dict := some h.objs.size } := by
      refine (hs.2 x hxs).trans (Heap.get?_update_self _ hx₁ ?_)
      obtain ⟨oc, od, odt, osl⟩ := o
      cases odt <;> first | rfl | exact hfr
    refine hq h' _ hn' (fun b ob hbx hb => ?_) hx'
    exact (hs.2 b (Nat.ne_of_lt (Heap.lt_size hb))).trans ((Heap.get?_update_ne _ _ _ _ hbx).trans (Heap.get?_push_of_some _ hb))
theorem set_more {Q : Unit → Shared → Prop} {o : Obj} {dx : Addr} {mA : Str → Option Value} {ns : List Str} (T : HasE bm) (P : PassE bm) (X : K.In h)
    (hC : h.get? C = some (clsO nm q C N bs bm true sn sub ab col dd k0 k1 k2 k3 k5)) (hs : findIn K (.ref C) "__setattr__" = some (some (.builtin "object.__setattr__"))) (hna : findIn K (.ref C) name = some none)
    (hx : h.get? x = some o) (hc : o.cls = .ref C) (hdx : o.dict = some dx) (hns : h.Ns1 dx mA) (hw : Within mA ns) (hsz : ns.length ≤ 1000)
    (hq : ∀ h' tk', Heap.SameBut dx h h' → h'.Ns1 dx (fun y => if y = name then some v else mA y) → Q () ⟨h', g, d, tk', os⟩) :
    wpAny (model prog w) A (setAttr (.ref x) name v) Q E ⟨h, g, d, t, os⟩ := by
  have SF := PySem.F.store_object
  have f3 := SF.slot.bind (.ref x)
  have hpass := P (.ref x)
  unfold setAttr callSpecial? specialOf
  repeat (any_goals (first | assumption | (with_reducible refine wpAny_loadPart_at hx ?_; rw [hc]) | (with_reducible refine (looks_findIn X hs).at ?_) | wp_step))
  refine codeAny_call_builtin SF.slot.plain SF.entry (check_sa T hC hx hc ?_)
  unfold Builtin.«object.__setattr__»
  repeat (first | rw [refuse_eq] | (rw [refuseLoop_ref, hpass]) | (with_reducible refine wpAny_loadPart_at hx ?_; rw [hc]) | with_reducible refine wpAny_mroOf_exc hC ?_ | (with_reducible refine (looks_findIn X hna).at ?_) | wp_step)
  rw [hdx]
  refine wpAny_pure ?_
  show wpAny _ _ (storeInDict dx (.str name _) name v) _ _ _
  unfold storeInDict newKeyGuard
  refine wpAny_bind (wpAny_pure (wpAny_bind (wpAny_nsSet1 hns fun h' hn' hs => ?_)))
  obtain ⟨oD, esD, epD, hoD, hdD, hcD⟩ := hn'.count (Within.cons name v hw)
  refine wpAny_bind (wpAny_lookBehind hoD (by rw [hdD]; exact pastItsLine_dict (Nat.le_trans hcD (by rw [List.length_cons, sizeLine_eq]; omega))) ?_)
  wp_walk
  exact hq h' _ hs hn'
end
end Mine
namespace Mine
open PySem PySem.W PySem.Calls PyProof.Rows
section
variable {prog : Program} {w : World} {A : Around} {E : Value → Shared → Prop} {h : Heap} {g : Array GenState} {d : Drawn} {t : Nat} {os : OsState}
variable {nm q : Str} {C N e : Addr} {bs bm : List Value} {sn : List Str} {sub : List Value} {ab : Bool} {col : Option Bool} {dd : Option Addr} {k0 k1 k2 k3 k5 : Option Value} {K : Frag} {hdct : Bool}
theorem check_init_own {M : Model} {oe : Obj} {rest : List Value} {Q : Unit → Shared → Prop} (T : HasE bm)
    (hC : h.get? C = some (clsO nm q C N bs bm hdct sn sub ab col dd k0 k1 k2 k3 k5)) (he : h.get? e = some oe) (hcls : oe.cls = .ref C) (hq : Q () ⟨h, g, d, t, os⟩) :
    wpAny M A (checkBuiltinCall "Exception.__init__" ⟨.ref e :: rest, []⟩) Q E ⟨h, g, d, t, os⟩ := by
  have hcB : (Value.ref C :: bm).contains (.type "Exception") = true := by rw [List.contains_cons, T _ _ FE.hasB, Bool.or_true]
  have hshort := FE.noStar
  simp only [checkBuiltinCall, FE.initKind, FE.initSplit, FE.initRow]
  repeat (first | (with_reducible refine wpAny_loadPart_at he ?_; rw [hcls]) | with_reducible refine wpAny_loadPart_at hC ?_ | (with_reducible refine wpAny_isSubtype_exc hC ?_; rw [hcB]) | wp_step)
  refine wpAny_onRaise ?_
  rw [show ∀ (a b : String) (n : Nat), Bind.check ⟨.positional, "*", "Exception", .self, [⟨"args", .varPos, false⟩]⟩ a b n (List.map (fun x => x.fst) ({ pos := Value.ref e :: rest } : Args).kw) = pure () from
    fun a b n => check_star_args _ _ _ _ _ _]
  exact wpAny_pure hq
theorem init_own {rest : List Value} {ta : Addr} {de : Option Addr} {Q : Value → Shared → Prop} (T : HasE bm)
    (hC : h.get? C = some (clsO nm q C N bs bm hdct sn sub ab col dd k0 k1 k2 k3 k5)) (he : h.get? e = some (excO C ta de)) (hrest : rest.length ≤ sizeLine)
    (hq : ∀ h' t', h'.get? e = some (excO C h.objs.size de) → (∀ b ob, b ≠ e → h.get? b = some ob → h'.get? b = some ob) → Q .none ⟨h', g, d, t', os⟩) :
    wpAny (model prog w) A (call (.builtin "Exception.__init__") (.ref e :: rest)) Q E ⟨h, g, d, t, os⟩ := by
  refine wpAny_call (codeAny_call_builtin FE.init.plain FE.initEntry (check_init_own T hC he rfl ?_))
  wp_walk
  refine hq _ _ ?_ fun b ob hb hbo => ?_
  · rw [Heap.get?_update_self _ (Heap.get?_push_of_some _ he) rfl]
    rfl
  · rw [Heap.get?_update_other _ _ (Ne.symm hb)]
    exact Heap.get?_push_of_some _ hbo
/-- `Exception.__init__` is read -/
theorem find_exc : findCls K (.type "Exception") (.type "type") "__init__" = some (.val (.builtin "Exception.__init__")) := by kernel_rfl
theorem getMethod_exc {s : Shared} {pl : Sem Bool} {Q : Value × List Value → Shared → Prop} (X : K.In s.heap) (hq : ∀ tk, Q (.builtin "Exception.__init__", []) { s with toks := tk }) :
    wpAny (model prog w) A (getMethod (.type "Exception") "__init__" pl) Q E s := by
  unfold getMethod
  refine wpAny_bind ((Looks.of_pure (r := some (Value.builtin "type.__getattribute__")) (by kernel_rfl)).here ?_)
  dsimp only
  rw [if_pos canon_tga]
  refine wpAny_bind (cls_open (mc := .type "type") (hook := none) X (Looks.of_pure (by kernel_rfl)) (Looks.of_pure (by kernel_rfl)) (by kernel_rfl) (looks_hook X (by kernel_rfl)) (by kernel_rfl) find_exc ?_)
  refine wpAny_pure ?_
  show wpAny _ _ (handedOut _) _ _ _
  rw [handedOut_of (by kernel_rfl)]
  exact wpAny_pure (wpAny_pure (hq _))
end
/-- all stands but one address -/
def But (e : Addr) (h h' : Heap) : Prop := ∀ b ob, b ≠ e → h.get? b = some ob → h'.get? b = some ob
theorem But.fr {e L : Addr} {h h' g : Heap} {m : Str → Option Value} (b : But e h h') (F : Fr g L h m) (he : g.get? e = none) (hL : L ≠ e) : Fr g L h' m := by
  obtain ⟨oL, es, ep, hL', r⟩ := F.ns
  refine ⟨⟨oL, es, ep, b _ _ hL hL', r⟩, fun x o q => b _ _ (fun z => ?_) (F.keep x o q), F.above⟩
  rw [z, he] at q; cases q
theorem But.news {e L : Addr} {h h' g : Heap} {news : List (Addr × Obj)} (b : But e h h') (N : News g L h news) (hn : ∀ p ∈ news, p.1 ≠ e) : News g L h' news :=
  fun p hp => ⟨b _ _ (hn p hp) (N p hp).1, (N p hp).2⟩
theorem But.inK {e : Addr} {h h' g : Heap} {K : Frag} (b : But e h h') (X : K.In g) (k : ∀ b o, g.get? b = some o → h.get? b = some o) (he : g.get? e = none) : K.In h' :=
  X.keeps fun x o q => b _ _ (fun z => by rw [z, he] at q; cases q) (k _ _ q)
section
variable {prog : Program} {w : World} {A : Around} {E : Value → Shared → Prop} {s : Shared} {K : Frag} {p : Program} {loose : List Str} {mean : ExcName → Option Value} {mg mb : Str → Option Value} {g : Heap} {L : Addr} {m : Str → Option Value} {news : List (Addr × Obj)}
variable {cn : Str} {cs : Scope} {a : Addr} {cd : Value}
variable {nm q : Str} {C N e ta : Addr} {bs bm : List Value} {sn : List Str} {sub : List Value} {ab : Bool} {col : Option Bool} {dd : Option Addr} {k0 k1 k2 k3 k5 : Option Value}
/-- a method's call by its class -/
theorem call_by {env : Env} {o : Expr} {name x1 x2 : Str} {f : Value} {apos pos pA pB : Pos} {Q : Value → Shared → Prop} (hline : (apos.endLine == pos.line) = true) (hb : isCall o = false)
    (h : wpAny (model prog w) A (eval o env) (fun ov s₁ => ∀ pl, wpAny (model prog w) A (getMethod ov name pl) (fun r s₂ => r = (f, []) ∧
      wpAny (model prog w) A (callWith pos f [] (backTo pos (starEach [.Name x1 pA, .Name x2 pB] env)) []) Q E s₂) E s₁) E s) :
    wpAny (model prog w) A (eval (.Call (.Attribute o name apos) [.Name x1 pA, .Name x2 pB] [] pos) env) Q E s := by
  rw [arm_eval_Call, attr_base hb]
  refine wpAny_bind (wpAny_mono h (fun ov s₁ h₁ => ?_) fun _ _ e => e)
  refine wpAny_bind (wpAny_standAt ?_)
  unfold methodCall
  have hform : methodCallForm ([Expr.Name x1 pA, Expr.Name x2 pB].length + ([] : List Keyword).length) (backTo pos (starEach [Expr.Name x1 pA, Expr.Name x2 pB] env)) (backToKw pos (keywordEach [] env)) = true := rfl
  have hpos : methodCallPos true o env apos pos = pure pos := by unfold methodCallPos; simp [hline]
  rw [hform]
  refine wpAny_bind (wpAny_holding ?_)
  show wpAny _ _ (getMethod ov name _) _ _ _
  refine wpAny_mono (h₁ _) (fun r s₂ h₂ => ?_) fun _ _ e => e
  obtain ⟨rfl, h₂⟩ := h₂
  exact wpAny_bind (wpAny_of_eq hpos h₂)
theorem two_args {x1 x2 : Str} {v1 v2 : Value} {pos pA pB : Pos} {Q : List Value → Shared → Prop} (F : Fr g L s.heap m) (h1 : m x1 = some v1) (h2 : m x2 = some v2) (hk : cs.kind = .function) (hl1 : cs.names.lookup x1 = some .local) (hl2 : cs.names.lookup x2 = some .local)
    (hd1 : (x1 == ("__debug__" : Str)) = false) (hd2 : (x2 == ("__debug__" : Str)) = false) (h : Q [v1, v2] s) :
    wpAny (model prog w) A (spliced (backTo pos (starEach [.Name x1 pA, .Name x2 pB] (envOf cn cs L a cd)))) Q E s :=
  args_cons (he := rfl) (ld F h1 (args_cons (he := rfl) (ld F h2 (args_nil h) hk hl2 hd2)) hk hl1 hd1)
structure ClsK (K : Frag) (C : Addr) (bm : List Value) : Prop where
  obj : ∃ nm q N bs sn sub ab col dd k0 k1 k2 k3 k5, K.lookup C = some (clsO nm q C N bs bm true sn sub ab col dd k0 k1 k2 k3 k5)
  has : HasE bm
  pass : PassE bm
  seta : findIn K (.ref C) "__setattr__" = some (some (.builtin "object.__setattr__"))
  text : findIn K (.ref C) "text" = some none
  at_ : findIn K (.ref C) "at" = some none
structure Sc2 (cs : Scope) : Prop where
  kind : cs.kind = .function
  self : cs.names.lookup ("self" : Str) = some .local
  text : cs.names.lookup ("text" : Str) = some .local
/-- `Exception.__init__(self, text)` -/
theorem base_init {p1 p2 p3 p4 p5 p6 : Pos} {tx : Value} {Q : Flow → Shared → Prop} (hs : Sc2 cs) (hx : cs.names.lookup ("Exception" : Str) = some .globalImplicit) (hline : (p2.endLine == p5.line) = true) (F : Fr g L s.heap m) (X : K.In g) (T : TopRead p loose mg mb g) (hex : nsIn K mainGlobals "Exception" = some none) (CK : ClsK K C bm)
    (h1 : m "self" = some (.ref e)) (h2 : m "text" = some tx) {de : Option Addr} (he : s.heap.get? e = some (excO C ta de)) (heg : g.get? e = none) (heL : L ≠ e)
    (hq : ∀ h' tk' t1, h'.get? e = some (excO C t1 de) → But e s.heap h' → Fr g L h' m → Q .next { s with heap := h', toks := tk' }) :
    wpAny (model prog w) A (exec (.Expr (.Call (.Attribute (.Name "Exception" p1) "__init__" p2) [.Name "self" p3, .Name "text" p4] [] p5) p6) (envOf cn cs L a cd)) Q E s := by
  refine wpAny_Expr (call_by (f := .builtin "Exception.__init__") hline rfl ?_) ?_ rfl
  · refine name_B (v := .type "Exception") F X T hex (by decide +kernel) (by decide +kernel) (fun pl => ?_) hs.kind hx (by decide +kernel)
    refine getMethod_exc (X.keeps F.keep) fun tk1 => ⟨rfl, ?_⟩
    refine PyProof.Rows.callWith_builtin1 ?_ rfl rfl
    refine two_args (s := { s with toks := tk1 }) F h1 h2 hs.kind hs.self hs.text (by decide +kernel) (by decide +kernel) ?_
    obtain ⟨nm, q, N, bs, sn, sub, ab, col, dd, k0, k1, k2, k3, k5, hC⟩ := CK.obj
    refine init_own CK.has (F.keep _ _ (X _ _ hC)) he (by show 1 ≤ sizeLine; rw [sizeLine_eq]; decide) fun h' t' he' hb => ?_
    exact hq h' t' _ he' hb (But.fr (h := s.heap) hb F heg heL)
  · show (cs.kind == .module && _) = false
    rw [hs.kind]; rfl
theorem self_text {p1 p2 p3 p4 : Pos} {tx : Value} {Q : Flow → Shared → Prop} (hs : Sc2 cs) (F : Fr g L s.heap m) (X : K.In g) (CK : ClsK K C bm)
    (h1 : m "self" = some (.ref e)) (h2 : m "text" = some tx) (he : s.heap.get? e = some (excO C ta none)) (heg : g.get? e = none) (heL : L ≠ e)
    (hq : ∀ h' tk' dx, h'.get? e = some (excO C ta (some dx)) → But e s.heap h' → s.heap.get? dx = none → h'.Ns1 dx (fun y => if y = ("text" : Str) then some tx else none) → Fr g L h' m → Q .next { s with heap := h', toks := tk' }) :
    wpAny (model prog w) A (exec (.Assign [.Attribute (.Name "self" p1) "text" p2] (.Name "text" p3) p4) (envOf cn cs L a cd)) Q E s := by
  refine plainObj_wpAny_Assign_Attribute ?_ rfl
  refine ld F h2 ?_ hs.kind hs.text (by decide +kernel)
  refine ld F h1 ?_ hs.kind hs.self (by decide +kernel)
  obtain ⟨nm, q, N, bs, sn, sub, ab, col, dd, k0, k1, k2, k3, k5, hC⟩ := CK.obj
  refine set_first CK.has CK.pass (X.keeps F.keep) (F.keep _ _ (X _ _ hC)) CK.seta CK.text he rfl (fun c hc => nomatch hc) rfl rfl fun h' tk' hn hb he' => ?_
  exact hq h' tk' _ he' hb (Heap.get?_none_of_le (Nat.le_refl _)) hn (But.fr (h := s.heap) hb F heg heL)
end
end Mine
namespace Mine
open PySem PySem.W PySem.Calls PyProof.Rows
/-- a def of the program, as the written part holds it -/
structure DefK (K : Frag) (f : Addr) (qual : Str) (names : List Str) (body : List Stmt) (scope : Scope) (cdv : Value) : Prop where
  look : ∃ name params dV kV doc pm an ct oc od osl, K.lookup f = some ⟨oc, od, .func (fnOf name qual params body scope dV kV doc pm an cdv ct), osl⟩ ∧
    ∀ vs : List Value, vs.length = names.length → bindArgs (fnOf name qual params body scope dV kV doc pm an cdv ct) ⟨vs, []⟩ = pure (names.zip vs)
  code : codeIn K cdv qual = true
  co : scope.isCoroutine = false
  gen : scope.isGenerator = false
  kind : scope.kind = .function
  cell : ∀ x ∈ scope.names, x.2 ≠ .cell
  loc : ∀ x ∈ names, scope.names.lookup x = some .local
section
variable {prog : Program} {w : World} {A A₀ : Around} {s : Shared} {K : Frag} {p : Program} {loose : List Str} {mean : ExcName → Option Value} {mg mb : Str → Option Value} {base h₀ : Heap} {L : Addr} {m : Str → Option Value} {news : List (Addr × Obj)} {env : Env} {outer : List Env} {R : Result → Shared → Prop}
theorem enterG {f : Addr} {qual : Str} {names : List Str} {body : List Stmt} {scope : Scope} {cdv : Value} (D : DefK K f qual names body scope cdv) {vs : List Value} (hvs : vs.length = names.length)
    (B : Below A₀ base outer h₀) (F : Fr h₀ L s.heap m) (X₀ : K.In h₀) (N : News h₀ L s.heap news) (T : Top p loose mean mg mb h₀) (hA : A.frames = some (env :: outer)) (hf : env.frame = some L) (hke : env.scope.kind = .function) (hroom : A.depth < recursionLimit)
    (h : ∀ g L' h₁, Fr h₀ L g m → Fr g L' h₁ (fun y => (names.zip vs).reverse.lookup y) → News g L' h₁ news → Below A base (env :: outer) g → K.In g → Top p loose mean mg mb g → GSub s.heap g (news.map (·.1)) →
      wpAny (model prog w) (A.deeper (envOf qual scope L' f cdv)) (execs body (envOf qual scope L' f cdv))
        (fun fl s' => LeaveK h₀ L m g R (match fl with | .ret v => v | _ => .none) s')
        (fun e s' => wpAny (model prog w) (A.deeper (envOf qual scope L' f cdv)) (leaving (envOf qual scope L' f cdv) e) (fun _ s'' => R (.error e) s'') (fun e' s'' => R (.error e') s'') s')
        { s with heap := h₁, toks := s.toks + (names.zip vs).length }) :
    codeAny (model prog w) A (.call (.ref f) ⟨vs, []⟩) R s := by
  obtain ⟨name, params, dV, kV, doc, pm, an, ct, oc, od, osl, hl, hb⟩ := D.look
  exact code_defG B F X₀ N T hA hf hke hl D.code hroom (BindsTo.of_eq (hb vs hvs)) (fun y hy => D.loc _ (List.of_mem_zip hy).1) h D.co D.gen D.kind D.cell
theorem enter {f : Addr} {qual : Str} {names : List Str} {body : List Stmt} {scope : Scope} {cdv : Value} (D : DefK K f qual names body scope cdv) {vs : List Value} (hvs : vs.length = names.length)
    (B : Below A₀ base outer h₀) (F : Fr h₀ L s.heap m) (X₀ : K.In h₀) (N : News h₀ L s.heap news) (T : Top p loose mean mg mb h₀) (hA : A.frames = some (env :: outer)) (hf : env.frame = some L) (hke : env.scope.kind = .function) (hroom : A.depth < recursionLimit)
    (h : ∀ g L' h₁, Fr h₀ L g m → Fr g L' h₁ (fun y => (names.zip vs).reverse.lookup y) → News g L' h₁ news → Below A base (env :: outer) g → K.In g → Top p loose mean mg mb g →
      wpAny (model prog w) (A.deeper (envOf qual scope L' f cdv)) (execs body (envOf qual scope L' f cdv))
        (fun fl s' => LeaveK h₀ L m g R (match fl with | .ret v => v | _ => .none) s')
        (fun e s' => wpAny (model prog w) (A.deeper (envOf qual scope L' f cdv)) (leaving (envOf qual scope L' f cdv) e) (fun _ s'' => R (.error e) s'') (fun e' s'' => R (.error e') s'') s')
        { s with heap := h₁, toks := s.toks + (names.zip vs).length }) :
    codeAny (model prog w) A (.call (.ref f) ⟨vs, []⟩) R s := by
  exact enterG D hvs B F X₀ N T hA hf hke hroom fun g L' h₁ a b c d e f _ => h g L' h₁ a b c d e f
end
section
variable {prog : Program} {w : World} {A A₀ : Around} {s : Shared} {K : Frag} {p : Program} {loose : List Str} {mean : ExcName → Option Value} {mg mb : Str → Option Value} {base h₀ : Heap} {L : Addr} {m : Str → Option Value} {news : List (Addr × Obj)} {env : Env} {outer : List Env} {R : Result → Shared → Prop}
/-- the first own exception's `__init__` -/
def Init1 (K : Frag) (f : Addr) : Prop := ∃ qual scope cdv p1 p2 p3 p4 p5 p6 q1 q2 q3 q4, DefK K f qual ["self", "text"]
  [.Expr (.Call (.Attribute (.Name "Exception" p1) "__init__" p2) [.Name "self" p3, .Name "text" p4] [] p5) p6, .Assign [.Attribute (.Name "self" q1) "text" q2] (.Name "text" q3) q4] scope cdv ∧
  Sc2 scope ∧ scope.names.lookup ("Exception" : Str) = some .globalImplicit ∧ (p2.endLine == p5.line) = true
theorem init1_run {f C e ta : Addr} {bm : List Value} {tx : Value} (I1 : Init1 K f) (CK : ClsK K C bm) (hex : nsIn K mainGlobals "Exception" = some none) (hne : ∀ p ∈ news, p.1 ≠ e)
    (B : Below A₀ base outer h₀) (F : Fr h₀ L s.heap m) (X₀ : K.In h₀) (N : News h₀ L s.heap ((e, excO C ta none) :: news)) (T : Top p loose mean mg mb h₀) (hA : A.frames = some (env :: outer)) (hf : env.frame = some L) (hke : env.scope.kind = .function) (hroom : A.depth < recursionLimit)
    (hq : ∀ h' tk' t1 dx od, Fr h₀ L h' m → News h₀ L h' ((e, excO C t1 (some dx)) :: (dx, od) :: news) → h'.Ns1 dx (fun y => if y = ("text" : Str) then some tx else none) → dx ≠ e → (∀ p ∈ news, p.1 ≠ dx) → R (.ok (.ret .none)) { s with heap := h', toks := tk' }) :
    codeAny (model prog w) A (.call (.ref f) ⟨[.ref e, tx], []⟩) R s := by
  obtain ⟨qual, scope, cdv, p1, p2, p3, p4, p5, p6, q1, q2, q3, q4, D, S2, hx, hline⟩ := I1
  refine enter D rfl B F X₀ N T hA hf hke hroom fun g L' h₁ FG F' N' B' X' T' => ?_
  have m1 : (List.zip ([("self" : Str), "text"]) [Value.ref e, tx]).reverse.lookup ("self" : Str) = some (Value.ref e) := by
    show List.lookup ("self" : Str) [(("text" : Str), tx), (("self" : Str), Value.ref e)] = _
    rw [List.lookup_cons, show (("self" : Str) == ("text" : Str)) = false from by decide +kernel]
    exact List.lookup_cons_self
  have m2 : (List.zip ([("self" : Str), "text"]) [Value.ref e, tx]).reverse.lookup ("text" : Str) = some tx := List.lookup_cons_self
  have E0 := N' _ (.head _)
  refine wpAny_execs_cons (base_init (s := { s with heap := h₁, toks := _ }) S2 hx hline F' X' (topRead_of T') hex CK m1 m2 E0.1 E0.2.2 (Ne.symm E0.2.1) fun h2 tk2 t1 he2 hb2 F2 => ?_)
  have N2 : News g L' h2 news := hb2.news (fun p hp => N' p (.tail _ hp)) hne
  refine wpAny_execs_cons (self_text (s := { s with heap := h2, toks := tk2 }) S2 F2 X' CK m1 m2 he2 E0.2.2 (Ne.symm E0.2.1) fun h3 tk3 dx he3 hb3 hdx hns F3 => ?_)
  refine wpAny_execs_nil ?_
  obtain ⟨od, es, ep, hod, hrest⟩ := id hns
  have hdx' : h2.get? dx = none := hdx
  have hgdx : g.get? dx = none := by
    cases q : g.get? dx with
    | none => rfl
    | some o => rw [F2.keep _ _ q] at hdx'; cases hdx'
  have hLdx : dx ≠ L' := by
    obtain ⟨oL, _, _, hL, _⟩ := F2.ns
    intro z
    rw [z, hL] at hdx'; cases hdx'
  have hne' : ∀ p ∈ news, p.1 ≠ dx := fun p hp z => by
    have := (N2 p hp).1
    rw [z, hdx'] at this; cases this
  have hde : dx ≠ e := fun z => by rw [z] at hdx'; rw [hdx'] at he2; cases he2
  have N3 : News g L' h3 ((e, excO C t1 (some dx)) :: (dx, od) :: news) := by
    intro p hp
    rcases List.mem_cons.mp hp with rfl | hp
    · exact ⟨he3, E0.2⟩
    · rcases List.mem_cons.mp hp with rfl | hp
      · exact ⟨hod, hLdx, hgdx⟩
      · exact hb3.news N2 hne p hp
  exact leaveK_ (s' := { s with heap := h3, toks := tk3 }) F3 N3 fun Fh Nh => hq h3 tk3 t1 dx od Fh Nh hns hde hne'
structure InitBy (K : Frag) (Cb f1 : Addr) (x : Str) : Prop where
  ns : nsIn K mainGlobals x = some (some (.ref Cb))
  ga : specialIn K (.ref Cb) "__getattribute__" = some (some (.builtin "type.__getattribute__"))
  reads : readsIn K Cb (.type "type") = true
  find : findCls K (.ref Cb) (.type "type") "__init__" = some (.val (.ref f1))
  hand : handedIn (.ref f1) = true
  keep : keepIn K (.ref f1) = true
  one : Init1 K f1
/-- the second own exception's `__init__` -/
def Init2 (K : Frag) (f : Addr) : Prop := ∃ qual scope cdv p1 p2 p3 p4 p5 p6 q1 q2 q3 q4, DefK K f qual ["self", "at", "text"]
  [.Expr (.Call (.Attribute (.Name "F77Error" p1) "__init__" p2) [.Name "self" p3, .Name "text" p4] [] p5) p6, .Assign [.Attribute (.Name "self" q1) "at" q2] (.Name "at" q3) q4] scope cdv ∧
  Sc2 scope ∧ scope.names.lookup ("at" : Str) = some .local ∧ scope.names.lookup ("F77Error" : Str) = some .globalImplicit ∧ (p2.endLine == p5.line) = true
theorem init2_run {f f1 C Cb e ta : Addr} {bm : List Value} {tx va : Value} (I2 : Init2 K f) (IB : InitBy K Cb f1 "F77Error") (CK : ClsK K C bm) (hex : nsIn K mainGlobals "Exception" = some none) (hne : ∀ p ∈ news, p.1 ≠ e)
    (B : Below A₀ base outer h₀) (F : Fr h₀ L s.heap m) (X₀ : K.In h₀) (N : News h₀ L s.heap ((e, excO C ta none) :: news)) (T : Top p loose mean mg mb h₀) (hA : A.frames = some (env :: outer)) (hf : env.frame = some L) (hke : env.scope.kind = .function) (hroom : A.depth + 1 < recursionLimit)
    (hq : ∀ h' tk' t1 dx od, Fr h₀ L h' m → News h₀ L h' ((e, excO C t1 (some dx)) :: (dx, od) :: news) → R (.ok (.ret .none)) { s with heap := h', toks := tk' }) :
    codeAny (model prog w) A (.call (.ref f) ⟨[.ref e, va, tx], []⟩) R s := by
  obtain ⟨qual, scope, cdv, p1, p2, p3, p4, p5, p6, q1, q2, q3, q4, D, S2, hat, hx, hline⟩ := I2
  refine enter D rfl B F X₀ N T hA hf hke (by omega) fun g L' h₁ FG F' N' B' X' T' => ?_
  have m1 : (List.zip ([("self" : Str), "at", "text"]) [Value.ref e, va, tx]).reverse.lookup ("self" : Str) = some (Value.ref e) := by
    show List.lookup ("self" : Str) [(("text" : Str), tx), (("at" : Str), va), (("self" : Str), Value.ref e)] = _
    rw [List.lookup_cons, show (("self" : Str) == ("text" : Str)) = false from by decide +kernel]
    dsimp only
    rw [List.lookup_cons, show (("self" : Str) == ("at" : Str)) = false from by decide +kernel]
    exact List.lookup_cons_self
  have m2 : (List.zip ([("self" : Str), "at", "text"]) [Value.ref e, va, tx]).reverse.lookup ("text" : Str) = some tx := List.lookup_cons_self
  have m3 : (List.zip ([("self" : Str), "at", "text"]) [Value.ref e, va, tx]).reverse.lookup ("at" : Str) = some va := by
    show List.lookup ("at" : Str) [(("text" : Str), tx), (("at" : Str), va), (("self" : Str), Value.ref e)] = _
    rw [List.lookup_cons, show (("at" : Str) == ("text" : Str)) = false from by decide +kernel]
    exact List.lookup_cons_self
  refine wpAny_execs_cons (wpAny_Expr (call_by (f := .ref f1) hline rfl ?_) ?_ rfl)
  · refine name_K (s := { s with heap := h₁, toks := _ }) F' X' (topRead_of T') IB.ns (fun pl => ?_) S2.kind hx (by decide +kernel)
    refine method_cls (X'.keeps F'.keep) IB.ga (cls_value (X'.keeps F'.keep) IB.reads IB.find IB.hand ⟨rfl, ?_⟩)
    refine callWith_K X' IB.keep (two_args (s := { s with heap := h₁, toks := _ }) F' m1 m2 S2.kind S2.self S2.text (by decide +kernel) (by decide +kernel) ⟨X'.keeps F'.keep, ?_⟩) rfl rfl
    refine wpAny_call (init1_run (s := { s with heap := h₁, toks := _ }) IB.one CK hex hne B' F' X' N' T' (Around.frames_deeper hA) rfl S2.kind ?_ fun h2 tk2 t1 dx od F2 N2 hns hde hdn => ?_)
    · show A.depth + 1 < recursionLimit
      exact hroom
    · have E2 := N2 _ (.head _)
      have D2 := N2 _ (.tail _ (.head _))
      refine wpAny_execs_cons (plainObj_wpAny_Assign_Attribute ?_ rfl)
      refine ld (s := { s with heap := h2, toks := tk2 }) F2 m3 ?_ S2.kind hat (by decide +kernel)
      refine ld (s := { s with heap := h2, toks := tk2 }) F2 m1 ?_ S2.kind S2.self (by decide +kernel)
      obtain ⟨nm, q, N, bs, sn, sub, ab, col, dd, k0, k1, k2, k3, k5, hC⟩ := CK.obj
      refine set_more CK.has CK.pass (X'.keeps F2.keep) (F2.keep _ _ (X' _ _ hC)) CK.seta CK.at_ E2.1 rfl rfl hns (Within.cons "text" tx Within.nil) (by decide) fun h3 tk3 hs hns3 => ?_
      refine wpAny_execs_nil ?_
      obtain ⟨od3, es, ep, hod, hrest⟩ := id hns3
      have hb : But dx h2 h3 := fun b ob hb q => (hs.2 b hb).trans q
      have F3 : Fr g L' h3 _ := hb.fr F2 D2.2.2 (Ne.symm D2.2.1)
      have N3 : News g L' h3 ((e, excO C t1 (some dx)) :: (dx, od3) :: news) := by
        intro p hp
        rcases List.mem_cons.mp hp with rfl | hp
        · exact ⟨hb _ _ (Ne.symm hde) E2.1, E2.2⟩
        · rcases List.mem_cons.mp hp with rfl | hp
          · exact ⟨hod, D2.2⟩
          · exact hb.news (fun q hq => N2 q (.tail _ (.tail _ hq))) hdn p hp
      exact leaveK_ (s' := { s with heap := h3, toks := tk3 }) F3 N3 fun Fh Nh => hq h3 tk3 t1 dx od3 Fh Nh
  · show (scope.kind == .module && _) = false
    rw [S2.kind]; rfl
end
end Mine
namespace Mine
open PySem PySem.W PySem.Calls PyProof.Rows
section
variable {M : Model} {A : Around} {E : Value → Shared → Prop} {env : Env}
variable {nm q : Str} {C N : Addr} {bs bm : List Value} {hdct : Bool} {sn : List Str} {sub : List Value} {ab : Bool} {col : Option Bool} {dd : Option Addr} {k0 k1 k2 k3 k5 : Option Value}
theorem raise_made {s : Shared} {x : Sem Value} {Q : Flow → Shared → Prop} (T : HasE bm) (hh : A.handled = none)
    (h : wpAny M A x (fun v s₁ => ∃ e t de, v = .ref e ∧ s₁.heap.get? C = some (clsO nm q C N bs bm hdct sn sub ab col dd k0 k1 k2 k3 k5) ∧
      s₁.heap.get? e = some (excO C t de) ∧ E (.ref e) s₁) E s) :
    wpAny M A (raiseStmt env (some x) none) Q E s := by
  have hcB : (Value.ref C :: bm).contains (.type "BaseException") = true := by rw [List.contains_cons, T _ _ FE.hasBase, Bool.or_true]
  unfold raiseStmt
  refine wpAny_bind (wpAny_mono h (fun v s₁ h₁ => ?_) fun _ _ x => x)
  obtain ⟨e, t, de, rfl, hC, he, hE⟩ := h₁
  obtain ⟨hp, g, d, tk, os⟩ := s₁
  repeat (first | with_reducible refine wpAny_loadPart_at he ?_ | with_reducible refine wpAny_loadPart_at hC ?_ | (with_reducible refine wpAny_isSubtype_exc hC ?_; rw [hcB]) | wp_step)
  exact wpAny_raiseNew_none hh hE
end
/-- the own exceptions -/
structure ExcK (Γ : GC) : Prop where
  hex : nsIn Γ.KF mainGlobals "Exception" = some none
  one : ∃ Cb f1, InitBy Γ.KF Cb f1 "F77Error"
  lex : ∃ bm f2, ClsK Γ.KF (Γ.ca 0) bm ∧ Init2 Γ.KF f2 ∧ findIn Γ.KF (.ref (Γ.ca 0)) "__init__" = some (some (.ref f2)) ∧ typeIn Γ.KF (.ref f2) = some (.type "function") ∧ keepIn Γ.KF (.ref (Γ.ca 0)) = true
  syn : ∃ bm f1, ClsK Γ.KF (Γ.ca 1) bm ∧ Init1 Γ.KF f1 ∧ findIn Γ.KF (.ref (Γ.ca 1)) "__init__" = some (some (.ref f1)) ∧ typeIn Γ.KF (.ref f1) = some (.type "function") ∧ keepIn Γ.KF (.ref (Γ.ca 1)) = true
section
variable {Γ : GC} {c : FC}
theorem exc_flies (cok : c.Ok Γ) (may : c.may) (own : c.own) {i : Nat} (hi : i < 2) {h : Heap} {tk : Nat} {m : Str → Option Value} {e dx t1 : Addr} {od : Obj} {news : List (Addr × Obj)} {ls : List Addr} (G : Grow c.news₀ c.ls₀ news ls)
    (F : Fr c.g c.L h m) (N : News c.g c.L h ((e, excO (Γ.ca i) t1 (some dx)) :: (dx, od) :: news)) (hne : ∀ p ∈ news, p.1 ≠ e) : c.E (.ref e) (Γ.st h tk) := by
  have E1 := N _ (.head _)
  refine cok.hX may e h tk ⟨.ref (Γ.ca i), news, ls, G, ⟨i, hi, rfl⟩, .inl ⟨own, hideAll h [e], m, ?_, fun p hp => ?_, fun b o q => of_hideAll _ q, hideAll_none _ (.head _), ?_⟩⟩
  · obtain ⟨oL, es, ep, hL, r⟩ := F.ns
    refine ⟨⟨oL, es, ep, hideAll_get _ hL fun q => E1.2.1 (List.mem_singleton.mp q).symm, r⟩, fun b o q => hideAll_get _ (F.keep b o q) fun z => ?_, F.above⟩
    rw [List.mem_singleton.mp z, E1.2.2] at q
    cases q
  · have := N p (.tail _ (.tail _ hp))
    exact ⟨hideAll_get _ this.1 fun z => hne p hp (List.mem_singleton.mp z), this.2⟩
  · exact ⟨_, _, _, E1.1, rfl, rfl, rfl, rfl⟩
theorem raise_ok (gok : Γ.Ok) (cok : c.Ok Γ) (ek : ExcK Γ) (own : c.own) : RaiseOk Γ c := by
  intro i x hi hx np cp pos args f hl hlen hst hfl hf env σ h tk news ls Q I hp
  have hX := gok.X.keeps cok.B.stays
  have hT := gok.T.keeps cok.B.stays
  have hd : (x == ("__debug__" : Str)) = false := by
    rw [← hx]
    match i, hi with
    | 0, _ => decide +kernel
    | 1, _ => decide +kernel
  have hns := gok.excs i hi
  rw [hx] at hns
  have core : ∃ bm fI, ClsK Γ.KF (Γ.ca i) bm ∧ findIn Γ.KF (.ref (Γ.ca i)) "__init__" = some (some (.ref fI)) ∧ typeIn Γ.KF (.ref fI) = some (.type "function") ∧ keepIn Γ.KF (.ref (Γ.ca i)) = true ∧
      ∀ (A : Around) (s : Shared) (m : Str → Option Value) (nw : List (Addr × Obj)) (e ta : Addr) (vs : List Value) (R : Result → Shared → Prop), A.frames = some (c.env :: c.outer) → A.depth + 1 < recursionLimit → vs.length = 2 - i → Fr c.g c.L s.heap m → News c.g c.L s.heap ((e, excO (Γ.ca i) ta none) :: nw) → (∀ p ∈ nw, p.1 ≠ e) →
        (∀ h' tk' t1 dx od, Fr c.g c.L h' m → News c.g c.L h' ((e, excO (Γ.ca i) t1 (some dx)) :: (dx, od) :: nw) → R (.ok (.ret .none)) { s with heap := h', toks := tk' }) →
        codeAny (model Γ.prog Γ.w) A (.call (.ref fI) ⟨.ref e :: vs, []⟩) R s := by
    match i, hi with
    | 0, _ =>
      obtain ⟨bm, f2, CK, I2, h1, h2, h3⟩ := ek.lex
      obtain ⟨Cb, f1, IB⟩ := ek.one
      refine ⟨bm, f2, CK, h1, h2, h3, fun A s m nw e ta vs R hA hr hv F N hne hq => ?_⟩
      match vs, hv with
      | [va, tx], _ => exact init2_run I2 IB CK ek.hex hne cok.B F hX N hT hA rfl cok.kind hr hq
    | 1, _ =>
      obtain ⟨bm, f1, CK, I1, h1, h2, h3⟩ := ek.syn
      refine ⟨bm, f1, CK, h1, h2, h3, fun A s m nw e ta vs R hA hr hv F N hne hq => ?_⟩
      match vs, hv with
      | [tx], _ => exact init1_run I1 CK ek.hex hne cok.B F hX N hT hA rfl cok.kind (by omega) fun h' tk' t1 dx od F' N' _ _ _ => hq h' tk' t1 dx od F' N'
  obtain ⟨bm, fI, CK, hfind, hfn, hkeep, run⟩ := core
  obtain ⟨nm, q, N, bs, sn, sub, ab, col, dd, k0, k1, k2, k3, k5, hC⟩ := CK.obj
  rw [arm_exec_Raise]
  refine wpAny_bind (wpAny_standAt ?_)
  show wpAny _ _ (raiseStmt c.env (some (do let v ← eval (.Call (.Name x np) args [] cp) c.env; standAt pos; pure v)) none) _ _ _
  refine raise_made (C := Γ.ca i) (nm := nm) (q := q) (N := N) (bs := bs) (hdct := true) (sn := sn) (sub := sub) (ab := ab) (col := col) (dd := dd) (k0 := k0) (k1 := k1) (k2 := k2) (k3 := k3) (k5 := k5) CK.has rfl ?_
  refine wpAny_bind (Call_ ?_)
  obtain ⟨⟨m, F, hm⟩, NN, S, G⟩ := id I
  refine name_Kx (s := Γ.st h tk) F hX (topRead_of hT) hns ?_ cok.kind hl hd
  have body := hf cp env σ h tk news ls (fun vs s₁ => Γ.KF.In s₁.heap ∧ wpAny (model Γ.prog Γ.w) c.A (call (.ref (Γ.ca i)) ([] ++ vs)) (fun v s₃ => wpAny (model Γ.prog Γ.w) c.A (do standAt pos; pure v) (fun v s₁ => ∃ e t de, v = .ref e ∧ s₁.heap.get? (Γ.ca i) = some (clsO nm q (Γ.ca i) N bs bm true sn sub ab col dd k0 k1 k2 k3 k5) ∧
      s₁.heap.get? e = some (excO (Γ.ca i) t de) ∧ c.E (.ref e) s₁) c.E s₃) c.E s₁) I (by
    cases hr : f env σ with
    | exc => dsimp only at hp; rw [hr] at hp; exact hp
    | stuck => dsimp only at hp; rw [hr] at hp; exact hp.elim
    | ok r =>
    have may : c.may := by dsimp only at hp; rw [hr] at hp; exact hp
    intro vs h1 tk1 n1 l1 I1 R1 g1
    obtain ⟨⟨m1, F1, _⟩, N1, S1, G1⟩ := id I1
    refine ⟨hX.keeps F1.keep, ?_⟩
    have hund : (Code.builtin "type.__call__" ⟨.ref (Γ.ca i) :: ([] ++ vs), []⟩).envs = [] := by kernel_rfl
    have hw : (Code.builtin "type.__call__" ⟨.ref (Γ.ca i) :: ([] ++ vs), []⟩).weight = 1 := by kernel_rfl
    have hvl : vs.length = 2 - i := by rw [R1.length, hfl env σ r hr]; exact hlen
    refine call_own (h := h1) (hX.keeps F1.keep) hfind hfn CK.has (F1.keep _ _ (hX _ _ hC)) ?_ ?_
    · refine wpAny_call (run _ _ m1 ((h1.objs.size, { cls := .type "tuple", data := .seq vs.toArray }) :: n1) (h1.objs.size + 1) h1.objs.size vs _ ?_ ?_ hvl ((F1.push _).push _) ?_ ?_ ?_)
      · show pushEnvs (Code.builtin "type.__call__" ⟨.ref (Γ.ca i) :: ([] ++ vs), []⟩).envs c.A.frames = _
        rw [hund]; rfl
      · show c.dp + (Code.builtin "type.__call__" ⟨.ref (Γ.ca i) :: ([] ++ vs), []⟩).weight + 1 < recursionLimit
        rw [hw]
        have := cok.roomD
        omega
      · have := (N1.push F1 { cls := .type "tuple", data := .seq vs.toArray }).push (F1.push _) (excO (Γ.ca i) h1.objs.size none)
        rwa [Heap.size_push] at this
      · intro p hp'
        rcases List.mem_cons.mp hp' with rfl | hp'
        · exact Nat.ne_of_lt (Nat.lt_succ_self _)
        · exact Nat.ne_of_lt (Nat.lt_succ_of_lt (Heap.lt_size (N1 p hp').1))
      · intro h' tk' t1 dx od F' N'
        refine ⟨rfl, wpAny_bind (wpAny_standAt (wpAny_pure ⟨h1.objs.size + 1, t1, some dx, rfl, F'.keep _ _ (hX _ _ hC), (N' _ (.head _)).1, ?_⟩))⟩
        refine exc_flies cok may own hi G1 F' (news := n1) (dx := dx) (od := od) (t1 := t1) (fun p hp' => ?_) fun p hp' => ?_
        · rcases List.mem_cons.mp hp' with rfl | hp'
          · exact N' _ (.head _)
          · rcases List.mem_cons.mp hp' with rfl | hp'
            · exact N' _ (.tail _ (.head _))
            · exact N' _ (.tail _ (.tail _ (.tail _ hp')))
        · exact Nat.ne_of_lt (Nat.lt_succ_of_lt (Heap.lt_size (N1 p hp').1))
    · have : sizeLine = 16777216 := sizeLine_eq
      show vs.length ≤ _
      omega)
  cases args with
  | nil =>
    simp at hlen
    omega
  | cons e0 rest =>
    exact callWith_K hX hkeep body (star_cons (hst e0 (.head _))) (no_star rest fun e he => hst e (.tail _ he))
end
end Mine
namespace Mine
open PySem PySem.W PySem.Calls PyProof.Rows
section
variable {M : Model} {A : Around} {E : Value → Shared → Prop} {s' : Shared} {base g g₂ h : Heap} {outer : List Env} {L a e : Addr} {m : Str → Option Value} {name : Str} {scope : Scope} {cd : Value} {Q : Unit → Shared → Prop} {news : List (Addr × Obj)}
theorem leave_fresh {cls : Value} (K : Below A base outer g) (hx : Fresh h s'.heap e cls) (F : Fr g L h m) (N : News g L h news)
    (hQ : ∀ h', RaisedSN base g outer e cls news h' → g.UpToSlots h' → Q () { s' with heap := h' }) (hk : scope.kind = .function) :
    wpAny M (A.deeper (envOf name scope L a cd)) (leaving (envOf name scope L a cd) (.ref e)) Q E s' := by
  have K' := K.push (name := name) (a := a) (cd := cd) F hk
  have hin : ∀ env ∈ (envOf name scope L a cd :: outer), ∀ b, env.frame = some b → b ∈ (envOf name scope L a cd :: outer).filterMap (·.frame) := fun env he b hb => List.mem_filterMap.mpr ⟨env, he, hb⟩
  have st : base.StaysIn (hideAll h ((envOf name scope L a cd :: outer).filterMap (·.frame))) := fun b o q => hideAll_get _ (K'.stays b o q) fun hm => by
    rw [(K'.frames.mem hm).1] at q; cases q
  have sg : ∀ b o, g.get? b = some o → b ∉ outer.filterMap (·.frame) → (hideAll h ((envOf name scope L a cd :: outer).filterMap (·.frame))).get? b = some o := fun b o q nm => hideAll_get _ (F.keep b o q) fun hm => by
    rcases kts_mem hm with z | z
    · rw [z, kts_self F] at q
      cases q
    · exact nm z
  have hl : ∀ q ∈ news, (hideAll h ((envOf name scope L a cd :: outer).filterMap (·.frame))).get? q.1 = some q.2 ∧ g.get? q.1 = none ∧ base.get? q.1 = none := fun q hq => by
    refine ⟨hideAll_get _ (N q hq).1 fun hm => ?_, (N q hq).2.2, fresh_of_stays K.stays (N q hq).2.2⟩
    obtain ⟨env, he, hf⟩ := List.mem_filterMap.mp hm
    rcases List.mem_cons.mp he with rfl | he
    · exact (N q hq).2.1 (Option.some.inj hf).symm
    · obtain ⟨o, ho, _⟩ := (K.frames.mem (List.mem_filterMap.mpr ⟨env, he, hf⟩)).2
      rw [(N q hq).2.2] at ho; cases ho
  obtain ⟨ob, vs, tp, he, hcls, hd, h0, h1⟩ := hx.there
  have hen : (hideAll h ((envOf name scope L a cd :: outer).filterMap (·.frame))).get? e = none := by
    cases q : (hideAll h ((envOf name scope L a cd :: outer).filterMap (·.frame))).get? e with
    | none => rfl
    | some o => have := of_hideAll _ q; rw [hx.new] at this; cases this
  refine wpAny_leaving_firstW (a0 := tp) K'.stack ((funFrames_hide K'.frames hin).of_keeps fun b o hb _ => ⟨o, hx.keeps b o hb, rfl⟩) rfl he (fun b o hb => hx.keeps b o (of_hideAll _ hb)) hen hd h1 h0 fun h' hL => ?_
  obtain ⟨k1, ⟨_, _, k2⟩, k3, k4⟩ := hL
  have R : RaisedSN base g outer e cls news h' := ⟨_, tp, st, sg, hl, k1, hen, k2, by rw [← hcls]; exact k3⟩
  exact hQ h' R (((Heap.UpToSlots.of_keeps F.keep).trans (Heap.UpToSlots.of_keeps hx.keeps)).trans k4)
end
/-! values handed out of a def -/
section
variable {base : Heap} {ta : Nat → Option Addr} {news : List (Addr × Obj)} {ls ls' : List Addr}
theorem At.less (hs : ∀ a ∈ ls, a ∈ ls') {a : Addr} {o : Obj} (h : At base news ls' a o) : At base news ls a o := h.imp (fun h => ⟨h.1, fun q => h.2 (hs _ q)⟩) id
mutual
theorem RepV.less (hs : ∀ a ∈ ls, a ∈ ls') : ∀ {v : Value} {d : PV}, RepV base ta news ls' v d → noLoc d = true → RepV base ta news ls v d
  | _, _, .none, _ => .none
  | _, _, .bool b, _ => .bool b
  | _, _, .int i t, _ => .int i t
  | _, _, .str x t h k, _ => .str x t h k
  | _, _, .tup h r, n => .tup (h.less hs) (RepA.less hs r (by simpa [noLoc] using n))
  | _, _, .list h r, n => .list (h.less hs) (RepA.less hs r (by simpa [noLoc] using n))
  | _, _, .loc h, n => by simp [noLoc] at n
  | _, _, .tab h, _ => .tab h
theorem RepA.less (hs : ∀ a ∈ ls, a ∈ ls') : ∀ {vs : List Value} {ds : List PV}, RepA base ta news ls' vs ds → noLocs ds = true → RepA base ta news ls vs ds
  | _, _, .nil, _ => .nil
  | _, _, .cons h r, n => by
    simp only [noLocs, Bool.and_eq_true] at n
    exact .cons (RepV.less hs h n.1) (RepA.less hs r n.2)
end
variable {σ : Store}
mutual
theorem RepV.frozen (S : StoreOk base ta news ls' σ) (n : Nat) (hls : ls = ls'.take n) : ∀ {v : Value} {d e : PV}, RepV base ta news ls' v d → freeze n σ d = some e → RepV base ta news ls v e
  | _, _, _, .none, h => by cases h; exact .none
  | _, _, _, .bool b, h => by cases h; exact .bool b
  | _, _, _, .int i t, h => by cases h; exact .int i t
  | _, _, _, .str x t hx k, h => by cases h; exact .str x t hx k
  | _, _, _, .tup ha r, h => by
    simp only [freeze] at h
    obtain ⟨l, hl, rfl⟩ := Option.map_eq_some_iff.mp h
    exact .tup (ha.less (fun a q => by rw [hls] at q; exact List.mem_of_mem_take q)) (RepA.frozen S n hls r hl)
  | _, _, _, .list ha r, h => by
    simp only [freeze] at h
    split at h
    · rename_i hn
      cases h
      have hs : ∀ a ∈ ls, a ∈ ls' := fun a q => by rw [hls] at q; exact List.mem_of_mem_take q
      exact .list (ha.less hs) (r.less hs hn)
    · cases h
  | _, _, _, .loc (a := a) (k := k) hk, h => by
    simp only [freeze] at h
    split at h
    · rename_i hnk
      cases hl : σ[k]? with
      | none => rw [hl] at h; cases h
      | some l =>
        rw [hl] at h
        dsimp only at h
        split at h
        · rename_i hn
          cases h
          obtain ⟨vs, i, hm, r⟩ := S.at' k a l hk hl
          have hs : ∀ a ∈ ls, a ∈ ls' := fun a q => by rw [hls] at q; exact List.mem_of_mem_take q
          refine .list (.inl ⟨hm, fun q => ?_⟩) (r.less hs hn)
          rw [hls] at q
          obtain ⟨j, hj⟩ := List.getElem?_of_mem q
          have hjn : j < n := by
            have := (List.getElem?_eq_some_iff.mp hj).1
            simp at this; omega
          rw [List.getElem?_take_of_lt hjn] at hj
          have := nodup_idx S.nodup hj hk
          omega
        · cases h
    · cases h
  | _, _, _, .tab hk, h => by cases h; exact .tab hk
theorem RepA.frozen (S : StoreOk base ta news ls' σ) (n : Nat) (hls : ls = ls'.take n) : ∀ {vs : List Value} {ds es : List PV}, RepA base ta news ls' vs ds → freezes n σ ds = some es → RepA base ta news ls vs es
  | _, _, _, .nil, h => by cases h; exact .nil
  | _, _, _, .cons hv r, h => by
    simp only [freezes, Option.bind_eq_some_iff, Option.map_eq_some_iff] at h
    obtain ⟨w, hw, l, hl, rfl⟩ := h
    exact .cons (RepV.frozen S n hls hv hw) (RepA.frozen S n hls r hl)
end
end
section
variable {Γ : GC} {c : FC} {C : Nat → List PV → Store → Out (PV × Store)}
/-- the leaving of a def -/
theorem back (cok : c.Ok Γ) {c' : FC} {env : Env'} {σ σ' : Store} {news news' : List (Addr × Obj)} {ls ls' : List Addr} {h' g : Heap} {tk' : Nat} {m m₀ : Str → Option Value} {Q : Value → Shared → Prop} {v : Value} {fl : Fl} {o : PV × Store} {L' : Addr}
    (hm : MRel Γ c m env news ls) (S₀ : StoreOk Γ.base Γ.ta news ls σ) (G₀ : Grow c.news₀ c.ls₀ news ls)
    (F' : Fr g L' h' m₀) (N' : News g L' h' news') (S : StoreOk Γ.base Γ.ta news' ls' σ') (gr : Grow news ls news' ls')
    (rv : RepV Γ.base Γ.ta news' ls' v (flP fl)) (hl : leaveP σ.length fl σ' = .ok o) {h : Heap} (gs : GSub h g (news.map (·.1)))
    (hq : ∀ v h' tk' news' ls', Inv Γ c h' env o.2 news' ls' → RepV Γ.base Γ.ta news' ls' v o.1 → Grow news ls news' ls' → Apart h news h' news' → Q v (Γ.st h' tk')) :
    Fr c.g c.L h' m → News c.g c.L h' news' → Q v (Γ.st h' tk') := by
  intro Fc Nc
  unfold leaveP at hl
  cases hf : freeze σ.length σ' (flP fl) with
  | none => simp only [hf] at hl; cases hl
  | some w =>
    simp only [hf] at hl
    split at hl
    · rename_i hall
      cases hl
      obtain ⟨t, rfl⟩ := gr.live
      have hlen : ls.length = σ.length := S₀.len
      have hls : ls = (ls ++ t).take σ.length := by rw [← hlen, List.take_left]
      have g1 : Grow news ls news' ls := ⟨fun p hp hn => ⟨(gr.keep p hp hn).1, hn⟩, [], (List.append_nil _).symm⟩
      have hsub : ∀ a ∈ ls, a ∈ ls ++ t := fun a q => List.mem_append_left _ q
      have hlen' : σ.length ≤ σ'.length := by
        have h2 := S.len
        rw [List.length_append] at h2
        omega
      refine hq v h' tk' news' ls ⟨⟨m, Fc, fun k x pv hx he => ?_⟩, Nc, ⟨?_, ?_, ?_, ?_, ?_⟩, G₀.trans g1⟩ (rv.frozen S _ hls hf) g1 ⟨fun b o q n => F'.keep b o (gs b o q n), fun p hp => ?_⟩
      · obtain ⟨v', hv', r⟩ := hm k x pv hx he
        exact ⟨v', hv', r.mono g1⟩
      · rw [List.length_take, hlen]; omega
      · exact (List.nodup_append.mp S.nodup).1
      · exact fun a q => S.off a (hsub a q)
      · exact fun l q => S.small l (List.mem_of_mem_take q)
      · intro k a l h1 h2
        have hk : k < σ.length := by rw [← hlen]; exact (List.getElem?_eq_some_iff.mp h1).1
        rw [List.getElem?_take_of_lt hk] at h2
        obtain ⟨vs, n, h3, h4⟩ := S.at' k a l (by rw [List.getElem?_append_left (by omega)]; exact h1) h2
        refine ⟨vs, n, h3, h4.less hsub ?_⟩
        have : l ∈ σ'.take σ.length := List.mem_of_getElem? (by rw [List.getElem?_take_of_lt hk]; exact h2)
        exact List.all_eq_true.mp hall l this
      · by_cases hpn : p.1 ∈ news.map (·.1)
        · exact .inl hpn
        · right
          cases q : h.get? p.1 with
          | none => rfl
          | some o =>
            have := gs _ _ q hpn
            rw [(N' p hp).2.2] at this
            cases this
    · cases hl
theorem MRel.of (I : Inv Γ c h env σ news ls) : ∃ m, Fr c.g c.L h m ∧ MRel Γ c m env news ls := I.fr
/-- the facts of a def that the small language can hold -/
structure DefC (Γ : GC) (k : Nat) (d : FD) : Prop where
  ex : ∃ qual names body scope cdv n, DefK Γ.KF (Γ.fa k) qual names body scope cdv ∧ cSL (cS (cxOf scope) n) body = some d.code ∧ d.npar = names.length ∧ (nmOf scope).take names.length = names ∧ (nmOf scope).Nodup
theorem zip_lookup : ∀ {names : List Str} {vs : List Value} {k : Nat} {x : Str} {v : Value}, names.Nodup → names[k]? = some x → vs[k]? = some v → (names.zip vs).reverse.lookup x = some v := by
  intro names vs k x v hn hk hv
  have hmem : (x, v) ∈ names.zip vs := by
    refine List.mem_of_getElem? (i := k) ?_
    rw [List.getElem?_zip_eq_some]
    exact ⟨hk, hv⟩
  have huniq : ∀ w, (x, w) ∈ names.zip vs → w = v := by
    intro w hw
    obtain ⟨j, hj⟩ := List.getElem?_of_mem hw
    rw [List.getElem?_zip_eq_some] at hj
    have := nodup_idx hn hj.1 hk
    subst this
    rw [hv] at hj
    exact (Option.some.inj hj.2).symm
  have hmem' : (x, v) ∈ (names.zip vs).reverse := List.mem_reverse.mpr hmem
  have huniq' : ∀ w, (x, w) ∈ (names.zip vs).reverse → w = v := fun w hw => huniq w (List.mem_reverse.mp hw)
  generalize (names.zip vs).reverse = l at hmem' huniq'
  induction l with
  | nil => cases hmem'
  | cons p r ih =>
    obtain ⟨y, u⟩ := p
    by_cases hy : x = y
    · subst hy
      rw [List.lookup_cons_self, huniq' u (.head _)]
    · rw [List.lookup_cons, show (x == y) = false from beq_eq_false_iff_ne.mpr hy]
      rcases List.mem_cons.mp hmem' with h | h
      · cases h; exact absurd rfl hy
      · exact ih h fun w hw => huniq' w (.tail _ hw)
theorem call_defG (gok : Γ.Ok) (cok : c.Ok Γ) {k : Nat} {qual : Str} {names : List Str} {body : List Stmt} {scope : Scope} {cdv : Value} {X : EX} {nl : Nat} (DK : DefK Γ.KF (Γ.fa k) qual names body scope cdv) (hpar : (nmOf scope).take names.length = names) (hnd : (nmOf scope).Nodup)
    (hd : c.dp + 12 < recursionLimit) (hu : c.un + 104 < cLine)
    (hb : ∀ c' : FC, c'.Ok Γ → c'.dp = c.dp + 1 → c'.un = c.un + 3 → c'.cs = scope → c'.nm = nmOf scope → c'.may = c.may → c'.own → SX Γ c' (execs body c'.env) X)
    {args : List PV} {env : Env'} {σ : Store} {h : Heap} {tk : Nat} {news : List (Addr × Obj)} {ls : List Addr} {vs : List Value} {Q : Value → Shared → Prop} (hal : args.length = names.length)
    (I : Inv Γ c h env σ news ls) (ra : RepA Γ.base Γ.ta news ls vs args) (hp : PostS Γ c env news ls h Q ((X (args.map some ++ List.replicate nl none) σ).bind fun q => leaveP σ.length q.1 q.2.2)) :
    wpAny (model Γ.prog Γ.w) c.A (call (.ref (Γ.fa k)) vs) Q c.E (Γ.st h tk) := by
  have hvl : vs.length = names.length := by rw [ra.length, hal]
  have hX := gok.X.keeps cok.B.stays
  have hT := gok.T.keeps cok.B.stays
  obtain ⟨⟨m, F, hm⟩, NN, S, G⟩ := id I
  refine wpAny_call (enterG (s := Γ.st h tk) DK hvl cok.B F hX NN hT rfl rfl cok.kind (by show c.dp < recursionLimit; omega) fun g L' h₁ FG F' N' B' X' T' GS => ?_)
  let c' : FC := { cn := qual, cs := scope, L := L', a := Γ.fa k, cd := cdv, outer := c.env :: c.outer, g := g, dp := c.dp + 1, un := c.un + 3, gd := c.gd, A₀ := c.A, nm := nmOf scope, news₀ := news, ls₀ := ls, may := c.may, own := True, cells := [], E := fun e s' => wpAny (model Γ.prog Γ.w) (c.A.deeper (envOf qual scope L' (Γ.fa k) cdv)) (leaving (envOf qual scope L' (Γ.fa k) cdv) e) (fun _ s'' => c.E e s'') (fun e' s'' => c.E e' s'') s' }
  have cok' : c'.Ok Γ := {
    B := B'
    kind := DK.kind
    nmnd := hnd
    hE := PassesOwn.leaving
    hX := by
      rintro may e h' tk' ⟨cls, nw, lw, gr, hf, hcase⟩
      have key : ∀ h'', RaisedSN Γ.base g (c.env :: c.outer) e cls nw h'' → g.UpToSlots h'' → c.E (.ref e) (Γ.st h'' tk') := fun h'' R U =>
        cok.hX may e h'' tk' ⟨cls, nw, lw, G.trans gr, hf, .inr ⟨g, m, FG, R, U⟩⟩
      rcases hcase with ⟨_, h₀, m₀, F₀, N₀, fr⟩ | ⟨g₂, m₀, F₀, R, U⟩
      · exact leave_fresh (s' := Γ.st h' tk') B' fr F₀ N₀ key DK.kind
      · exact leave_onSN (s' := Γ.st h' tk') B' F₀ R U fun h'' R' _ U' => key h'' R' U'
    room := by show c.un + 3 + 100 < cLine; omega
    roomD := by show c.dp + 1 + 10 < recursionLimit; omega }
  have I' : Inv Γ c' h₁ (args.map some ++ List.replicate nl none) σ news ls := by
    refine ⟨⟨_, F', fun j x pv hx he => ?_⟩, N', S, Grow.refl⟩
    have hj : j < args.length := by
      by_cases hj : j < args.length
      · exact hj
      · exfalso
        rw [List.getD_eq_getElem?_getD, List.getElem?_append_right (by simp; omega)] at he
        by_cases hj2 : j - (args.map some).length < nl
        · rw [List.getElem?_replicate_of_lt hj2] at he; cases he
        · rw [List.getElem?_eq_none (by simp at hj2 ⊢; omega)] at he; cases he
    rw [List.getD_eq_getElem?_getD, List.getElem?_append_left (by simpa using hj), List.getElem?_map] at he
    have he' : args[j]? = some pv := by
      rw [List.getElem?_eq_getElem hj] at he ⊢
      simpa using he
    obtain ⟨v, hv, rv⟩ := ra.get he'
    have hnx : names[j]? = some x := by
      rw [← hpar, List.getElem?_take_of_lt (by omega)]
      exact hx
    have hnn : names.Nodup := by rw [← hpar]; exact hnd.sublist (List.take_sublist ..)
    exact ⟨v, zip_lookup hnn hnx hv, rv⟩
  refine hb c' cok' rfl rfl rfl rfl rfl trivial _ σ h₁ _ news ls (fun fl s' => LeaveK c.g c.L m g (fun r s' => match r with | .ok (.ret v) => Q v s' | .ok _ => False | .error e => c.E e s') (match fl with | .ret v => v | _ => .none) s') I' ?_
  cases hr : X (args.map some ++ List.replicate nl none) σ with
  | exc => rw [hr] at hp; exact hp
  | stuck => rw [hr] at hp; exact hp.elim
  | ok q =>
    rw [hr] at hp
    intro fl h' tk' news' ls' I2 rf gr
    obtain ⟨⟨m2, F2, _⟩, N2, S2, G2⟩ := I2
    change PostS _ _ _ _ _ _ _ (leaveP σ.length q.1 q.2.2) at hp
    cases hlv : leaveP σ.length q.1 q.2.2 with
    | exc =>
      exfalso
      unfold leaveP at hlv
      split at hlv
      · split at hlv <;> cases hlv
      · cases hlv
    | stuck => rw [hlv] at hp; exact hp.elim
    | ok o =>
      rw [hlv] at hp
      refine leaveK_ (s' := Γ.st h' tk') F2 N2 (back cok (c' := c') (fl := q.1) hm S G F2 N2 S2 gr ?_ hlv GS hp)
      obtain ⟨q1, q2, q3⟩ := q
      dsimp only at rf ⊢
      cases rf with
      | next => exact .none
      | cont => exact .none
      | ret r => exact r
theorem call_def (gok : Γ.Ok) (ek : ExcK Γ) (cok : c.Ok Γ) {k N : Nat} {d : FD} (D : DefC Γ k d) (hd : c.dp + 12 < recursionLimit) (hu : c.un + 104 < cLine)
    (hC : ∀ c' : FC, c'.Ok Γ → c'.dp = c.dp + 1 → c'.un = c.un + 3 → CallOk Γ c' C)
    {args : List PV} {env : Env'} {σ : Store} {h : Heap} {tk : Nat} {news : List (Addr × Obj)} {ls : List Addr} {vs : List Value} {Q : Value → Shared → Prop}
    (I : Inv Γ c h env σ news ls) (ra : RepA Γ.base Γ.ta news ls vs args) (hp : PostS Γ c env news ls h Q (runFD C N d args σ)) :
    wpAny (model Γ.prog Γ.w) c.A (call (.ref (Γ.fa k)) vs) Q c.E (Γ.st h tk) := by
  obtain ⟨qual, names, body, scope, cdv, n, DK, hbody, hnp, hpar, hnd⟩ := D.ex
  unfold runFD at hp
  split at hp
  · rename_i hal
    refine call_defG gok cok DK hpar hnd hd hu (fun c' cok' hd' hu' hcs hnm _ own => ?_) (by rw [hal, hnp]) I ra hp
    exact rows_ok (c := c') (C := C) (X := cxOf scope) (N := N) (sound_S gok cok' (hC c' cok' hd' hu') (raise_ok gok cok' ek own) hcs.symm hnm.symm rfl rfl N n) body d.code hbody
  · exact hp.elim
end
end Mine
namespace Mine
open PySem PySem.W PySem.Calls PyProof.Rows
def dbl39 : List Nat → List Nat
  | [] => []
  | c :: r => if c = 39 then 39 :: 39 :: dbl39 r else c :: dbl39 r
theorem dbl39_eq (l : List Nat) : StrLaws.dbl 39 l = dbl39 l := by
  induction l with
  | nil => rfl
  | cons c r ih =>
    unfold dbl39 StrLaws.dbl
    by_cases h : c = 39 <;> simp_all [StrLaws.dbl]
theorem dbl39_len (l : List Nat) : (dbl39 l).length ≤ 2 * l.length := by
  induction l with
  | nil => simp [dbl39]
  | cons c r ih =>
    unfold dbl39
    split <;> simp <;> omega
theorem dbl39_asc {l : List Nat} (h : ∀ c ∈ l, c < 128) : ∀ c ∈ dbl39 l, c < 128 := by
  induction l with
  | nil => simp [dbl39]
  | cons c r ih =>
    unfold dbl39
    have := ih fun x hx => h x (.tail _ hx)
    have hc := h c (.head _)
    split
    · intro x hx
      rcases List.mem_cons.mp hx with rfl | hx
      · omega
      · rcases List.mem_cons.mp hx with rfl | hx
        · omega
        · exact this x hx
    · intro x hx
      rcases List.mem_cons.mp hx with rfl | hx
      · exact hc
      · exact this x hx
def showX : EX := fun env σ => match env.getD 0 none with
  | some (.str s) => if s.length ≤ 100000 then .ok (.ret (.str (39 :: (dbl39 s ++ [39]))), env, σ) else .stuck
  | _ => .stuck
section
variable {Γ : GC} {c : FC}
theorem str_const {env : Env} {x : Str} {k : Nat} {pos : Pos} {h : Heap} {tk : Nat} {Q : Value → Shared → Prop} {A : Around} {E : Value → Shared → Prop} {prog : Program} {w : World} (hq : Q (.str x tk) (Γ.st h (tk + 1))) :
    wpAny (model prog w) A (eval (.Constant (.str x) k pos) env) Q E (Γ.st h tk) := wpAny_Constant_str (s := Γ.st h tk) hq
theorem sx_show (cok : c.Ok Γ) {k1 k2 k3 k4 : Nat} {p1 p2 p3 p4 p5 p6 p7 p8 p9 p10 : Pos} (hline : (p3.endLine == p6.line) = true) (hnm : c.nm[0]? = some ("signs" : Str)) (hl : c.cs.names.lookup ("signs" : Str) = some .local) :
    SX Γ c (execs [.Return (some (.BinOp (.BinOp (.Constant (.str "'") k1 p1) .Add (.Call (.Attribute (.Name "signs" p2) "replace" p3) [.Constant (.str "'") k2 p4, .Constant (.str "''") k3 p5] [] p6) p7) .Add (.Constant (.str "'") k4 p8) p9)) p10] c.env) showX := by
  intro env σ h tk news ls Q I hp
  unfold showX at hp
  cases he : env.getD 0 none with
  | none => rw [he] at hp; exact hp.elim
  | some pv =>
    rw [he] at hp
    obtain ⟨⟨m, F, hm⟩, N, S, G⟩ := id I
    obtain ⟨v, hv, rv⟩ := hm 0 _ pv hnm he
    cases rv with
    | str x t hx hc =>
      rename_i s
      dsimp only at hp
      split at hp
      · rename_i hs
        have hxl : x.length = s.length := by rw [← hx]; simp [Str.length]
        have hdl := dbl39_len s
        have hrep : (Txt.replace x ("'" : Str) ("''" : Str)).cps.toList = dbl39 s := by
          have := StrLaws.replace_double x 39
          rw [dbl39_eq, hx] at this
          exact this
        have hrl : (Txt.replace x ("'" : Str) ("''" : Str)).cps.size = (dbl39 s).length := by rw [← Array.length_toList, hrep]
        have hsz : sizeLine = 16777216 := sizeLine_eq
        refine wpAny_execs_cons (wpAny_Return_some (wpAny_BinOp (wpAny_BinOp (str_const ?_))))
        refine wpAny_Call_method_lateS (attr_base rfl) rfl hline ?_
        refine ldx (s := Γ.st h (tk + 1)) F hv ?_ cok.kind hl (by decide +kernel)
        refine ⟨"str", "str.replace", PySem.F.plainAttrs_str, PySem.F.slot_str_replace, PySem.F.type_str_replace, typeIs_str _ _ _, (fun a e => nomatch e), ?_⟩
        refine callWith_method1 ?_ rfl rfl
        refine args_cons (he := rfl) (str_const (args_cons (he := rfl) (str_const (args_nil ?_))))
        refine SC.replace (s := Γ.st h (tk + 1 + 1 + 1)) (by simp) (by simp) (by simp) (by decide +kernel) ?_ fun t' k => ?_
        · rw [hxl]
          show s.length + (s.length + 1) * 2 ≤ _
          omega
        refine PyProof.Rows.add_str (s := Γ.st h k) (fun t2 k2 => ?_) ?_
        · refine str_const ?_
          refine PyProof.Rows.add_str (s := Γ.st h (k2 + 1)) (fun t3 k3 => ?_) ?_
          · refine hp _ h k3 news ls I (.ret (.str _ _ ?_ ?_)) Grow.refl
            · rw [append_cps, append_cps, hrep]
              rfl
            · intro d hd
              rcases List.mem_cons.mp hd with rfl | hd
              · omega
              · rcases List.mem_append.mp hd with hd | hd
                · exact dbl39_asc hc d hd
                · rw [List.mem_singleton.mp hd]; omega
          · rw [hsz]
            show (("'" : Str) ++ Txt.replace x ("'" : Str) ("''" : Str)).cps.size + 1 ≤ _
            rw [← Array.length_toList, append_cps, List.length_append, hrep]
            show 1 + _ + 1 ≤ _
            omega
        · rw [hsz]
          show 1 + (Txt.replace x ("'" : Str) ("''" : Str)).cps.size ≤ _
          rw [hrl]
          omega
      · exact hp.elim
    | _ => exact hp.elim
end
end Mine
namespace Mine
open PySem PySem.W PySem.Calls PyProof.Rows PyProof.Rows.LCg
def mapC (F : PV → Store → Out (PV × Store)) : List PV → Store → Out (List PV × Store)
  | [], σ => .ok ([], σ)
  | d :: r, σ => match F d σ with
    | .ok v => (match mapC F r v.2 with
      | .ok vs => .ok (v.1 :: vs.1, vs.2)
      | _ => .stuck)
    | _ => .stuck
section
variable {Γ : GC} {c : FC}
/-- the evaluation of a block's element -/
def EltOk (Γ : GC) (c : FC) (elt : Expr) (x : Str) (scope : Scope) (cl : List (Str × Addr)) (env : Env') (F : PV → Store → Out (PV × Store)) (cells : List (Addr × Obj)) : Prop :=
  ∀ C m₂ h tk σ news ls v d w σ1 (Q : Value → Shared → Prop) (E' : Value → Shared → Prop), h.Ns C m₂ → m₂ x = some v → (∀ p ∈ cells, p ∈ news ∧ p.1 ∉ ls) → Inv Γ c h env σ news ls → RepV Γ.base Γ.ta news ls v d → F d σ = .ok (w, σ1) →
    (∀ y h' tk' news' ls', Inv Γ c h' env σ1 news' ls' → RepV Γ.base Γ.ta news' ls' y w → Grow news ls news' ls' → Apart h news h' news' → Q y (Γ.st h' tk')) →
    wpAny (model Γ.prog Γ.w) c.A (eval elt (compEnvC scope cl C c.env)) Q E' (Γ.st h tk)
theorem comp_rest {elt : Expr} {x : Str} {scope : Scope} {cl : List (Str × Addr)} {env : Env'} {F : PV → Store → Out (PV × Store)} {cells : List (Addr × Obj)} {S : List (Addr × Obj) → Prop} {P : Nat → Value → Prop} {Fin : List Value → List (Addr × Obj) → Prop} {m : Str → Option Value} {s : Shared}
    (he : EltOk Γ c elt x scope cl env F cells) (hs : ∃ h0 tk0, s = Γ.st h0 tk0) {n0 : List (Addr × Obj)} {l0 : List Addr}
    (hS : ∀ news ls, Grow n0 l0 news ls → S news) (l : List PV) (hPd : ∀ i v, P i v → ∀ d, l[i]? = some d → ∀ news ls, Grow n0 l0 news ls → RepV Γ.base Γ.ta news ls v d)
    (hcell : ∀ p ∈ cells, p ∈ n0 ∧ p.1 ∉ l0) :
    ∀ (rest : List PV) (i : Nat) (σ σ' : Store) (rs : List PV) (ys : List Value) (ds : List PV) (news : List (Addr × Obj)) (ls : List Addr), rest = l.drop i →
      mapC F rest σ = .ok (rs, σ') → RepA Γ.base Γ.ta news ls ys ds → MRel Γ c m env news ls → StoreOk Γ.base Γ.ta news ls σ → Grow c.news₀ c.ls₀ news ls → Grow n0 l0 news ls →
      (∀ ys' news' ls', RepA Γ.base Γ.ta news' ls' ys' (ds ++ rs) → MRel Γ c m env news' ls' → StoreOk Γ.base Γ.ta news' ls' σ' → Grow c.news₀ c.ls₀ news' ls' → Grow n0 l0 news' ls' → Fin ys' news') →
      CompRest Γ.prog Γ.w c.A c.g c.L m c.env elt x scope cl s S P Fin rest.length i ys news := by
  intro rest
  induction rest with
  | nil =>
    intro i σ σ' rs ys ds news ls hr hm ra M S0 G G0 fin
    simp only [mapC, Out.ok.injEq, Prod.mk.injEq] at hm
    obtain ⟨rfl, rfl⟩ := hm
    exact CompRest.zero (fin ys news ls (by simpa using ra) M S0 G G0)
  | cons d rest ih =>
    intro i σ σ' rs ys ds news ls hr hm ra M S0 G G0 fin
    unfold mapC at hm
    cases hF : F d σ with
    | exc => rw [hF] at hm; cases hm
    | stuck => rw [hF] at hm; cases hm
    | ok v1 =>
      rw [hF] at hm
      dsimp only at hm
      cases hm2 : mapC F rest v1.2 with
      | exc => rw [hm2] at hm; cases hm
      | stuck => rw [hm2] at hm; cases hm
      | ok vs =>
        rw [hm2] at hm
        simp only [Out.ok.injEq, Prod.mk.injEq] at hm
        obtain ⟨rfl, rfl⟩ := hm
        have hdi : l[i]? = some d := by
          have := congrArg (fun q => q[0]?) hr
          simpa using this.symm
        have hrest : rest = l.drop (i + 1) := by
          have := congrArg List.tail hr
          simpa using this
        refine CompRest.succ fun v I oI C oC D m₂ h tk E' hPv hoC hxv Fh N off hne => ?_
        obtain ⟨h0, tk0, rfl⟩ := hs
        have offm := off.mem
        have NI := N (I, oI) (.head _)
        have NC := N (C, oC) (.tail _ (.head _))
        have ND := N (D, lst ys) (.tail _ (.tail _ (.head _)))
        have N' : News c.g c.L h news := fun p hp => N p (.tail _ (.tail _ (.tail _ hp)))
        have I0 : Inv Γ c h env σ news ls := ⟨⟨m, Fh, M⟩, N', S0, G⟩
        have rv := hPd i v hPv d hdi news ls G0
        have hout : ∀ a, (a = I ∨ a = C ∨ a = D) → a ∉ news.map (·.1) := by
          intro a ha hq
          obtain ⟨p, hp, rfl⟩ := List.mem_map.mp hq
          have := offm p hp
          rcases ha with h | h | h <;> simp_all
        refine he C m₂ h tk σ news ls v d v1.1 v1.2 _ E' (hoC.ns NC.1) hxv (fun p hp => G0.keep p (hcell p hp).1 (hcell p hp).2) I0 rv hF fun y h' tk' news' ls' I' ry g' ap => ?_
        obtain ⟨⟨m', F', M'⟩, N2, S2, G2⟩ := id I'
        have kI := ap.keep _ _ NI.1 (hout I (.inl rfl))
        have kC := ap.keep _ _ NC.1 (hout C (.inr (.inl rfl)))
        have kD := ap.keep _ _ ND.1 (hout D (.inr (.inr rfl)))
        have Fm : Fr c.g c.L h' m := by
          obtain ⟨oL, es, ep, hL, r⟩ := Fh.ns
          refine ⟨⟨oL, es, ep, ap.keep _ _ hL fun q => ?_, r⟩, F'.keep, Fh.above⟩
          obtain ⟨p, hp, hpe⟩ := List.mem_map.mp q
          exact (N' p hp).2.1 hpe
        have M2 : MRel Γ c m env news' ls' := fun k z pv hz hq => by
          obtain ⟨w, hw, rw'⟩ := M k z pv hz hq
          exact ⟨w, hw, rw'.mono g'⟩
        refine CompEnd.intro (s₁ := Γ.st h tk) Fm (all := (I, oI) :: (C, oC) :: (D, lst ys) :: news') (fun p hp => ?_) news' (fun p hp => hp) (Off3.of fun p hp => ?_) (hS news' ls' (G0.trans g')) ?_
        · rcases List.mem_cons.mp hp with rfl | hp
          · exact ⟨kI, NI.2⟩
          · rcases List.mem_cons.mp hp with rfl | hp
            · exact ⟨kC, NC.2⟩
            · rcases List.mem_cons.mp hp with rfl | hp
              · exact ⟨kD, ND.2⟩
              · exact N2 p hp
        · have hnot : ∀ a o, (a = I ∨ a = C ∨ a = D) → h.get? a = some o → p.1 ≠ a := by
            intro a o ha hq e
            subst e
            rcases ap.new p hp with q | q
            · exact hout _ ha q
            · rw [q] at hq; cases hq
          exact ⟨hnot I _ (.inl rfl) NI.1, hnot C _ (.inr (.inl rfl)) NC.1, hnot D _ (.inr (.inr rfl)) ND.1⟩
        · refine ih (i + 1) v1.2 vs.2 vs.1 (ys ++ [y]) (ds ++ [v1.1]) news' ls' hrest hm2 ((RepA.mono g' ra).append (.cons ry .nil)) M2 S2 G2 (G0.trans g') fun ys' n2 l2 ra2 => ?_
          refine fin ys' n2 l2 ?_
          simpa using ra2
/-! `list_row` -/
def texts : List PV → Option (List (List Nat))
  | [] => some []
  | .str s :: r => (texts r).map (s :: ·)
  | _ :: _ => none
def joinL : List (List Nat) → List Nat
  | [] => []
  | [x] => x
  | x :: r => x ++ 44 :: joinL r
def joinP (l : List PV) : Option (List Nat) := (texts l).bind fun ts => if (ts.map List.length).sum + ts.length ≤ 1000000 then some (joinL ts) else none
theorem texts_are {base : Heap} {ta : Nat → Option Addr} {news : List (Addr × Obj)} {ls : List Addr} : ∀ {vs : List Value} {ds : List PV} {ts : List (List Nat)}, RepA base ta news ls vs ds → texts ds = some ts → ∃ ys : List Str, StrsAre vs ys ∧ ys.map (fun y => y.cps.toList) = ts ∧ ∀ t ∈ ts, ∀ c ∈ t, c < 128
  | _, [], ts, r, h => by
    simp only [texts, Option.some.injEq] at h
    subst h
    cases r
    exact ⟨[], .nil, rfl, fun _ h => nomatch h⟩
  | _, d :: ds, ts, r, h => by
    cases r with
    | @cons v vs _ _ rv ra =>
      cases rv with
      | str x t hx hc =>
        simp only [texts] at h
        obtain ⟨ts', h', rfl⟩ := Option.map_eq_some_iff.mp h
        obtain ⟨ys, h1, h2, h3⟩ := texts_are ra h'
        refine ⟨x :: ys, .cons x t h1, by simp [h2, hx], fun q hq => ?_⟩
        rcases List.mem_cons.mp hq with rfl | hq
        · exact hc
        · exact h3 q hq
      | _ => simp [texts] at h
theorem join_cps : ∀ (ys : List Str), (Str.join ("," : Str) ys).cps.toList = joinL (ys.map fun y => y.cps.toList)
  | [] => rfl
  | [x] => rfl
  | x :: y :: r => by
    show (x ++ ("," : Str) ++ Str.join ("," : Str) (y :: r)).cps.toList = _
    rw [append_cps, append_cps, join_cps (y :: r)]
    show x.cps.toList ++ [44] ++ _ = x.cps.toList ++ 44 :: _
    simp
theorem joinL_asc : ∀ {ts : List (List Nat)}, (∀ t ∈ ts, ∀ c ∈ t, c < 128) → ∀ c ∈ joinL ts, c < 128
  | [], _, _, h => nomatch h
  | [x], h, c, hc => h x (.head _) c hc
  | x :: y :: r, h, c, hc => by
    rcases List.mem_append.mp (show c ∈ x ++ 44 :: joinL (y :: r) from hc) with q | q
    · exact h x (.head _) c q
    · rcases List.mem_cons.mp q with rfl | q
      · omega
      · exact joinL_asc (fun t ht => h t (.tail _ ht)) c q
theorem mapC_len {F : PV → Store → Out (PV × Store)} : ∀ {l : List PV} {σ : Store} {r : List PV × Store}, mapC F l σ = .ok r → r.1.length = l.length
  | [], σ, r, h => by simp only [mapC, Out.ok.injEq] at h; subst h; rfl
  | d :: l, σ, r, h => by
    unfold mapC at h
    cases h1 : F d σ with
    | exc => rw [h1] at h; cases h
    | stuck => rw [h1] at h; cases h
    | ok v =>
      rw [h1] at h
      dsimp only at h
      cases h2 : mapC F l v.2 with
      | exc => rw [h2] at h; cases h
      | stuck => rw [h2] at h; cases h
      | ok vs =>
        rw [h2] at h
        simp only [Out.ok.injEq] at h
        subst h
        simp [mapC_len h2]
theorem texts_len : ∀ {l : List PV} {ts : List (List Nat)}, texts l = some ts → ts.length = l.length
  | [], ts, h => by simp only [texts, Option.some.injEq] at h; subst h; rfl
  | d :: l, ts, h => by
    cases d <;> simp only [texts, reduceCtorEq] at h
    obtain ⟨t, ht, rfl⟩ := Option.map_eq_some_iff.mp h
    simp [texts_len ht]
def rowX (C : Nat → List PV → Store → Out (PV × Store)) (k : Nat) : EX := fun env σ => match env.getD 0 none with
  | some (.list l) => (match mapC (fun d σ => C k [d] σ) l σ with
    | .ok r => (match joinP r.1 with
      | some s => .ok (.ret (.str s), env, r.2)
      | none => .stuck)
    | _ => .stuck)
  | _ => .stuck
/-- the same frame, from which nothing may fly -/
def FC.still (c : FC) : FC := { c with E := fun _ _ => False, may := False }
theorem FC.still_ok (cok : c.Ok Γ) : c.still.Ok Γ := { B := cok.B, kind := cok.kind, nmnd := cok.nmnd, hE := PassesOwn.never, hX := fun h => h.elim, room := cok.room, roomD := cok.roomD }
theorem Inv.still {h : Heap} {env : Env'} {σ : Store} {news : List (Addr × Obj)} {ls : List Addr} (I : Inv Γ c h env σ news ls) : Inv Γ c.still h env σ news ls := ⟨I.fr, I.N, I.S, I.G⟩
theorem Inv.unstill {h : Heap} {env : Env'} {σ : Store} {news : List (Addr × Obj)} {ls : List Addr} (I : Inv Γ c.still h env σ news ls) : Inv Γ c h env σ news ls := ⟨I.fr, I.N, I.S, I.G⟩
theorem sx_row (gok : Γ.Ok) (cok : c.Ok Γ) {C : Nat → List PV → Store → Out (PV × Store)} (hC : CallOk Γ c.still C) {kL : Nat} (hkL : dnames.findIdx? (· == ("list_expr" : Str)) = some kL) {k1 : Nat} {p1 p2 p3 p4 q1 q2 q3 q4 q5 q6 : Pos} {cscope : Scope} (hline : (p2.endLine == p3.line) = true) (hnm : c.nm[0]? = some ("trees" : Str)) (hl : c.cs.names.lookup ("trees" : Str) = some .local)
    (hcn : cscope.names = [((".0" : Str), .local), ("tree", .local), ("list_expr", .globalImplicit)]) (hck : cscope.kind = .function) :
    SX Γ c (execs [.Return (some (.Call (.Attribute (.Constant (.str ",") k1 p1) "join" p2) [.ListComp (.Call (.Name "list_expr" q1) [.Name "tree" q2] [] q3) [⟨.Name "tree" q4, .Name "trees" q5, [], 0⟩] cscope q6] [] p3)) p4] c.env) (rowX C kL) := by
  intro env σ h tk news ls Q I hp
  unfold rowX at hp
  cases he : env.getD 0 none with
  | none => rw [he] at hp; exact hp.elim
  | some pv =>
    rw [he] at hp
    obtain ⟨⟨m, Fm, hm⟩, N, S, G⟩ := id I
    obtain ⟨v, hv, rv⟩ := hm 0 _ pv hnm he
    cases rv with
    | @list a vs n l hat ra =>
      dsimp only at hp
      cases hmc : mapC (fun d σ => C kL [d] σ) l σ with
      | exc => rw [hmc] at hp; exact hp.elim
      | stuck => rw [hmc] at hp; exact hp.elim
      | ok r =>
        rw [hmc] at hp
        dsimp only at hp
        cases hj : joinP r.1 with
        | none => rw [hj] at hp; exact hp.elim
        | some s =>
          rw [hj] at hp
          dsimp only at hp
          have hsz : sizeLine = 16777216 := sizeLine_eq
          refine wpAny_execs_cons (wpAny_Return_some ?_)
          refine wpAny_Call_method_lateS (attr_base rfl) rfl hline ?_
          refine str_const ?_
          refine ⟨"str", "str.join", PySem.F.plainAttrs_str, PySem.F.slot_str_join, PySem.F.type_str_join, typeIs_str _ _ _, (fun a e => nomatch e), ?_⟩
          refine callWith_method1 ?_ rfl rfl
          refine args_cons (he := rfl) ?_
          obtain ⟨ts, hts, hj2⟩ := Option.bind_eq_some_iff.mp hj
          have hbound : (ts.map List.length).sum + ts.length ≤ 1000000 := by
            by_cases hb : (ts.map List.length).sum + ts.length ≤ 1000000
            · exact hb
            · rw [if_neg hb] at hj2; cases hj2
          rw [if_pos hbound] at hj2
          cases hj2
          have hll : l.length ≤ 1000000 := by
            have := mapC_len hmc
            have := texts_len hts
            omega
          have hln := ra.length
          have hclos : closureFor cscope c.env = pure [] := by
            unfold closureFor
            rw [hcn]
            rfl
          refine ListComp_U (s := Γ.st h (tk + 1)) (cl := []) Fm hclos (by rw [hcn]; decide) hck (by rw [hcn]; decide +kernel) (by rw [hcn]; decide +kernel) ?_ (fun _ => rfl)
          refine ldx (s := Γ.st h (tk + 1)) Fm hv ?_ cok.kind hl (by decide +kernel)
          have hX := gok.X.keeps cok.B.stays
          have hT := gok.T.keeps cok.B.stays
          have elt : EltOk Γ c (.Call (.Name "list_expr" q1) [.Name "tree" q2] [] q3) "tree" cscope [] env (fun d σ => C kL [d] σ) [] := by
            intro D m₂ h tk σ news ls v d w σ1 Q' E' hns hmv _ I rv hF hq
            change C kL [d] σ = _ at hF
            obtain ⟨⟨m1, F1, _⟩, N1, _, _⟩ := id I
            refine Call_ (nameG_K (s := Γ.st h tk) F1 hX (topRead_of hT) (gok.defs _ kL hkL) ?_ rfl hck (by show List.lookup _ (List.map _ cscope.names) = _; rw [hcn]; rfl) (by decide +kernel))
            refine callWith_K hX (gok.defk _ kL hkL) (args_cons (he := rfl) ?_) rfl rfl
            refine ldVarK (s := Γ.st h tk) (m := m₂) hns hmv ?_ ?_ ?_ ?_
            · refine args_nil ⟨hX.keeps F1.keep, ?_⟩
              refine wpAny_mono (hC kL [d] env σ h tk news ls [v] Q' I.still (.cons rv .nil) ?_) (fun _ _ x => x) fun _ _ x => x.elim
              rw [hF]
              exact fun v' h' tk' n' l' I' r' g' a' => hq v' h' tk' n' l' I'.unstill r' g' a'
            · exact hck
            · show List.lookup _ (List.map _ cscope.names) = _
              rw [hcn]; rfl
            · decide +kernel
          have src : ∀ news' ls', Grow news ls news' ls' → SrcAt c.g a vs.toArray news' := fun news' ls' g => by
            rcases hat with ⟨h1, h2⟩ | h1
            · exact .inr ⟨_, (g.keep _ h1 h2).1, rfl, n, rfl⟩
            · exact .inl ⟨_, cok.B.stays _ _ h1, rfl, n, rfl⟩
          refine .inl ⟨a, vs.toArray, news, rfl, rfl, Fm, N, src news ls Grow.refl, by rw [hsz, List.size_toArray]; omega, ?_⟩
          rintro s2 ⟨h2, rfl⟩
          have hcr := comp_rest (n0 := news) (l0 := ls) (S := SrcAt c.g a vs.toArray) (P := fun i v => vs.toArray[i]? = some v) (m := m) (s := { Γ.st h (tk + 1) with heap := h2 })
            (Fin := FinE c.g c.L m { Γ.st h (tk + 1) with heap := h2 } (fun v s₁ => wpAny (model Γ.prog Γ.w) c.A (spliced (backTo p3 (starEach [] c.env))) (fun vs s₁ => wpAny (model Γ.prog Γ.w) c.A (call (.builtin "str.join") ([.str ("," : Str) tk] ++ (v :: vs))) (fun v s => match Flow.ret v with | .next => wpAny (model Γ.prog Γ.w) c.A (execs [] c.env) Q c.E s | f => Q f s) c.E s₁) c.E s₁))
            elt ⟨h2, tk + 1, rfl⟩ src l (fun i v hv d hd news' ls' g => by
              obtain ⟨v', hv', rv⟩ := ra.get hd
              have : v' = v := by
                have hv2 : vs[i]? = some v := by simpa using hv
                rw [hv'] at hv2
                exact Option.some.inj hv2
              subst this
              exact rv.mono g) (fun p hp => nomatch hp) l 0 σ r.2 r.1 [] [] news ls rfl hmc .nil hm S G Grow.refl (fun ys' news' ls' ra' M' S' G' g' => by
                intro D h' tk' F' N' off
                refine args_nil ?_
                obtain ⟨ys, h1, h2', h3⟩ := texts_are (by simpa using ra') hts
                have ND := N' _ (.head _)
                have hsum : (ys.map (·.length)).sum + ys.length * ("," : Str).length ≤ 16777216 := by
                  have e1 : (ys.map (·.length)) = ts.map List.length := by
                    rw [← h2', List.map_map]
                    apply List.map_congr_left
                    intro y _
                    show y.cps.size = y.cps.toList.length
                    simp
                  have e2 : ys.length = ts.length := by rw [← h2', List.length_map]
                  have e3 : ("," : Str).length = 1 := rfl
                  rw [e1, e2, e3]
                  omega
                refine PyProof.Rows.join_list (s := Γ.st h' tk') (items := ys'.toArray) ⟨_, ND.1, rfl, _, rfl⟩ (by simpa using h1) hsum fun t' k => ?_
                refine hp _ h' k news' ls' ⟨⟨m, F', M'⟩, fun p hp => N' p (.tail _ hp), S', G'⟩ (.ret (.str _ _ ?_ (joinL_asc h3))) g'
                have := join_cps ys
                rw [h2', ← StrLaws.glued_eq_join] at this
                exact this)
          rw [← hln] at hcr
          simpa using hcr
    | _ => exact hp.elim
end
end Mine
namespace Mine
open PySem PySem.W PySem.Calls PyProof.Rows PyProof.Rows.LCg
section
variable {Γ : GC} {c : FC}
theorem off1_mem {D : Addr} : ∀ {l : List (Addr × Obj)}, Off1 D l → ∀ p ∈ l, p.1 ≠ D
  | [], _, _, h => nomatch h
  | _ :: _, x, p, h => by
    rcases List.mem_cons.mp h with rfl | h
    · exact x.1
    · exact off1_mem x.2 p h
/-- a cell of the frame, that is only read -/
structure CellV (Γ : GC) (c : FC) (x : Str) (a : Addr) (v : Value) (d : PV) : Prop where
  mem : ∃ o, (a, o) ∈ c.news₀ ∧ o.data = .cell (some v)
  off : a ∉ c.ls₀
  look : c.cells.lookup x = some a
  kind : c.cs.names.lookup x = some .cell
  rep : RepV Γ.base Γ.ta c.news₀ c.ls₀ v d
theorem CellV.at {x : Str} {a : Addr} {v : Value} {d : PV} (V : CellV Γ c x a v d) {h : Heap} {env : Env'} {σ : Store} {news : List (Addr × Obj)} {ls : List Addr} (I : Inv Γ c h env σ news ls) : h.IsCell a (some v) ∧ RepV Γ.base Γ.ta news ls v d := by
  obtain ⟨o, hm, hd⟩ := V.mem
  exact ⟨⟨o, (I.N _ (I.G.keep _ hm V.off).1).1, hd⟩, V.rep.mono I.G⟩
theorem se_cell (cok : c.Ok Γ) {x : Str} {a : Addr} {v : Value} {d : PV} {pos : Pos} (V : CellV Γ c x a v d) (hd : (x == ("__debug__" : Str)) = false) : SE Γ c (eval (.Name x pos) c.env) (fun _ σ => .ok (d, σ)) := by
  intro env σ h tk news ls Q I hp
  obtain ⟨hc, hr⟩ := V.at I
  exact wpAny_Name (wpAny_loadName_cell (env := c.env) (s := Γ.st h tk) cok.kind V.kind V.look hc (hp _ h tk news ls I hr Grow.refl)) hd
theorem sl_nil {pos : Pos} : SL Γ c (spliced (backTo pos (starEach [] c.env))) (fun _ σ => .ok ([], σ)) := by
  intro env σ h tk news ls Q I hp
  exact args_nil (hp [] h tk news ls I .nil Grow.refl)
theorem sl_cons {e : Expr} {rest : List Expr} {pos : Pos} {f : EV} {g : Env' → Store → Out (List PV × Store)} (hs : isStar e = false) (he : SE Γ c (eval e c.env) f) (hr : SL Γ c (spliced (backTo pos (starEach rest c.env))) g) :
    SL Γ c (spliced (backTo pos (starEach (e :: rest) c.env))) (fun env σ => (f env σ).bind fun v => (g env v.2).bind fun vs => .ok (v.1 :: vs.1, vs.2)) := by
  intro env σ h tk news ls Q I hp
  refine args_cons (he := star_cons hs) (he env σ h tk news ls _ I (Post.bind hp fun r v h1 tk1 n1 l1 I1 R1 g1 hp1 => ?_))
  refine hr env r.2 h1 tk1 n1 l1 _ I1 (Post.bind hp1 fun q vs h2 tk2 n2 l2 I2 R2 g2 hp2 => ?_)
  exact hp2 _ h2 tk2 n2 l2 I2 (.cons (R1.mono g2) R2) Grow.refl
/-- the frame's map stands over what is apart -/
theorem Apart.fr {h h' : Heap} {news news' : List (Addr × Obj)} {m m' : Str → Option Value} {g : Heap} {L : Addr} (ap : Apart h news h' news') (F : Fr g L h m) (N : News g L h news) (F' : Fr g L h' m') : Fr g L h' m := by
  obtain ⟨oL, es, ep, hL, r⟩ := F.ns
  refine ⟨⟨oL, es, ep, ap.keep _ _ hL fun q => ?_, r⟩, F'.keep, F.above⟩
  obtain ⟨p, hp, hpe⟩ := List.mem_map.mp q
  exact (N p hp).2.1 hpe
def turns (n : Nat) : List PV := (List.range n).map fun (i : Nat) => PV.int i
def compF (C : Nat → List PV → Store → Out (PV × Store)) (kK kT : Nat) (tp dp : PV) : EV := fun _ σ => match C kK [tp, .int 3] σ with
  | .ok r => (match r.1 with
    | .int n => if 0 ≤ n ∧ n ≤ 1000 then (match mapC (fun _ σ => C kT [tp, dp] σ) (turns n.toNat) r.2 with
      | .ok rs => .ok (.list rs.1, rs.2)
      | _ => .stuck) else .stuck
    | _ => .stuck)
  | _ => .stuck
theorem se_comp (gok : Γ.Ok) (cok : c.Ok Γ) {C : Nat → List PV → Store → Out (PV × Store)} (hC : CallOk Γ c.still C) {kK kT : Nat} (hkK : dnames.findIdx? (· == ("_law_take" : Str)) = some kK) (hkT : dnames.findIdx? (· == ("_law_tree" : Str)) = some kT)
    {a1 a2 : Addr} {v1 v2 : Value} {tp dp : PV} (V1 : CellV Γ c "tape" a1 v1 tp) (V2 : CellV Γ c "deep" a2 v2 dp) (hcc : c.cells = [(("deep" : Str), a2), ("tape", a1)])
    {k1 : Nat} {q1 q2 q3 q4 q5 q6 q7 q8 q9 q10 q11 q12 : Pos} {cscope : Scope} (hl : c.cs.names.lookup ("range" : Str) = some .globalImplicit) (hl2 : c.cs.names.lookup ("_law_take" : Str) = some .globalImplicit)
    (hcn : cscope.names = [((".0" : Str), .local), ("turn", .local), ("_law_tree", .globalImplicit), ("deep", .free), ("tape", .free)]) (hck : cscope.kind = .function) :
    SE Γ c (eval (.ListComp (.Call (.Name "_law_tree" q1) [.Name "tape" q2, .Name "deep" q3] [] q4) [⟨.Name "turn" q5, .Call (.Name "range" q6) [.Call (.Name "_law_take" q7) [.Name "tape" q8, .Constant (.int 3) k1 q9] [] q10] [] q11, [], 0⟩] cscope q12) c.env) (compF C kK kT tp dp) := by
  intro env σ h tk news ls Q I hp
  unfold compF at hp
  cases hK : C kK [tp, .int 3] σ with
  | exc => rw [hK] at hp; exact hp.elim
  | stuck => rw [hK] at hp; exact hp.elim
  | ok r =>
    rw [hK] at hp
    dsimp only at hp
    obtain ⟨p1, σ1⟩ := r
    cases p1 with
    | int n =>
      dsimp only at hp
      split at hp
      · rename_i hn
        cases hmc : mapC (fun _ σ => C kT [tp, dp] σ) (turns n.toNat) σ1 with
        | exc => rw [hmc] at hp; exact hp.elim
        | stuck => rw [hmc] at hp; exact hp.elim
        | ok rs =>
          rw [hmc] at hp
          dsimp only at hp
          have hsz : sizeLine = 16777216 := sizeLine_eq
          have hX := gok.X.keeps cok.B.stays
          have hT := gok.T.keeps cok.B.stays
          have hclos : closureFor cscope c.env = pure [(("tape" : Str), a1), ("deep", a2)] := by
            unfold closureFor cellOf
            rw [hcn, show c.env.cells = _ from hcc]
            rfl
          have hrl : ∀ x, cscope.names.lookup x = some .free → c.cs.names.lookup x = some .cell → (compEnvC cscope [(("tape" : Str), a1), ("deep", a2)] 0 c.env).scope.names.lookup x = (relabel cscope c.env).names.lookup x := fun _ _ _ => rfl
          obtain ⟨⟨m, Fm, hm⟩, N, S, G⟩ := id I
          have kt : (relabel cscope c.env).names = [((".0" : Str), .local), ("turn", .local), ("_law_tree", .globalImplicit), ("deep", .cell), ("tape", .cell)] := by
            have e1 : (c.env.kindOf ("deep" : Str) == some NameKind.cell) = true := by rw [show c.env.kindOf ("deep" : Str) = some .cell from V2.kind]; rfl
            have e2 : (c.env.kindOf ("tape" : Str) == some NameKind.cell) = true := by rw [show c.env.kindOf ("tape" : Str) = some .cell from V1.kind]; rfl
            have e3 : (c.env.scope.kind == ScopeKind.function) = true := by rw [show c.env.scope.kind = .function from cok.kind]; rfl
            show List.map _ cscope.names = _
            rw [hcn]
            simp only [List.map_cons, List.map_nil, e1, e2, e3]
            rfl
          have elt : EltOk Γ c (.Call (.Name "_law_tree" q1) [.Name "tape" q2, .Name "deep" q3] [] q4) "turn" cscope [(("tape" : Str), a1), ("deep", a2)] env (fun _ σ => C kT [tp, dp] σ) [] := by
            intro D m₂ h tk σ news ls v d w σ1 Q' E' hns hmv _ I rv hF hq
            change C kT [tp, dp] σ = _ at hF
            obtain ⟨⟨m1, F1, _⟩, N1, _, _⟩ := id I
            obtain ⟨c1, r1⟩ := V1.at I
            obtain ⟨c2, r2⟩ := V2.at I
            refine Call_ (nameG_K (s := Γ.st h tk) F1 hX (topRead_of hT) (gok.defs _ kT hkT) ?_ rfl hck (by show List.lookup _ (relabel cscope c.env).names = _; rw [kt]; rfl) (by decide +kernel))
            refine callWith_K hX (gok.defk _ kT hkT) (args_cons (he := rfl) ?_) rfl rfl
            refine ldCellK (s := Γ.st h tk) rfl c1 ?_ hck (by show List.lookup _ (relabel cscope c.env).names = _; rw [kt]; rfl) (by decide +kernel)
            refine args_cons (he := rfl) ?_
            refine ldCellK (s := Γ.st h tk) rfl c2 ?_ hck (by show List.lookup _ (relabel cscope c.env).names = _; rw [kt]; rfl) (by decide +kernel)
            refine args_nil ⟨hX.keeps F1.keep, ?_⟩
            refine wpAny_mono (hC kT [tp, dp] env σ h tk news ls [v1, v2] Q' I.still (.cons r1 (.cons r2 .nil)) ?_) (fun _ _ x => x) fun _ _ x => x.elim
            rw [hF]
            exact fun v' h' tk' n' l' I' r' g' a' => hq v' h' tk' n' l' I'.unstill r' g' a'
          refine ListComp_U (s := Γ.st h tk) (cl := [(("tape" : Str), a1), ("deep", a2)]) Fm hclos (by rw [hcn]; decide) hck (by rw [hcn]; decide +kernel) (by rw [hcn]; decide +kernel) ?_ (fun _ => rfl)
          refine Call_ (range_name gok cok I hl ?_)
          refine PyProof.Rows.callWith_type1 ?_ rfl rfl
          refine args_cons (he := rfl) ?_
          obtain ⟨c1, r1⟩ := V1.at I
          refine Call_ (name_Kx (s := Γ.st h tk) Fm hX (topRead_of hT) (gok.defs _ kK hkK) ?_ cok.kind hl2 (by decide +kernel))
          refine callWith_K hX (gok.defk _ kK hkK) (args_cons (he := rfl) ?_) rfl rfl
          refine wpAny_Name (wpAny_loadName_cell (env := c.env) (s := Γ.st h tk) cok.kind V1.kind V1.look c1 ?_) (by decide +kernel)
          refine args_cons (he := rfl) (wpAny_Constant_int (args_nil ⟨hX.keeps Fm.keep, ?_⟩))
          refine wpAny_mono (hC kK [tp, .int 3] env σ h (tk + 1) news ls [v1, .int 3 tk] _ I.still (.cons r1 (.cons (.int _ _) .nil)) ?_) (fun _ _ x => x) fun _ _ x => x.elim
          rw [hK]
          intro y h1 tk1 n1 l1 I1 ry g1 ap1
          have I1' := I1.unstill
          obtain ⟨⟨m', F1, M1⟩, N1, S1, G1⟩ := id I1'
          have F1' := ap1.fr Fm N F1
          cases ry with
          | int _ t =>
            refine args_nil ?_
            refine call_range_1 (s := Γ.st h1 tk1) ?_
            obtain ⟨I2, g2, _⟩ := I1'.push { cls := .type "range", data := .fields #[.int 0 (Γ.st h1 tk1).toks, .int n t, .int 1 ((Γ.st h1 tk1).toks + 1)] }
            obtain ⟨⟨m2, F2, _⟩, N2, S2, G2⟩ := id I2
            have hM2 : MRel Γ c m env _ l1 := fun k z pv hz hq => by
              obtain ⟨w, hw, rw'⟩ := hm k z pv hz hq
              exact ⟨w, hw, (rw'.mono g1).mono g2⟩
            refine .inr ⟨h1.objs.size, 0, n, _, t, _, n.toNat, _, rfl, rfl, F1'.push _, N2, IsRange.new h1 0 n 1 _ t _, small_one (by omega) (by omega) (by omega) (by omega), ?_, by rw [hsz]; omega, ?_⟩
            · rw [rangeSize_one]
              split <;> omega
            · rintro s2 ⟨h2, rfl⟩
              have hcr := comp_rest (n0 := (h1.objs.size, { cls := .type "range", data := .fields #[.int 0 (Γ.st h1 tk1).toks, .int n t, .int 1 ((Γ.st h1 tk1).toks + 1)] }) :: n1) (l0 := l1) (S := fun _ => True) (P := fun i v => ∃ t, v = .int (0 + (i : Int)) t) (m := m) (s := { Γ.st h1 (tk1 + 1 + 1) with heap := h2 })
                (Fin := FinE c.g c.L m { Γ.st h1 (tk1 + 1 + 1) with heap := h2 } Q)
                elt ⟨h2, _, rfl⟩ (fun _ _ _ => trivial) (turns n.toNat) (fun i v hv d hd news' ls' g => by
                  obtain ⟨t, rfl⟩ := hv
                  have hd' : d = .int (0 + (i : Int)) := by
                    unfold turns at hd
                    rw [List.getElem?_map] at hd
                    obtain ⟨j, hj, rfl⟩ := Option.map_eq_some_iff.mp hd
                    have := (List.getElem?_eq_some_iff.mp hj).2
                    simp at this
                    rw [this]; simp
                  rw [hd']; exact .int _ _) (fun p hp => nomatch hp) (turns n.toNat) 0 σ1 rs.2 rs.1 [] [] _ l1 rfl hmc .nil hM2 S2 G2 Grow.refl (fun ys' news' ls' ra' M' S' G' g' => by
                  intro D h' tk' F' N' off
                  have ND := N' _ (.head _)
                  have off' := off1_mem off
                  have gD : Grow news' ls' ((D, lst ys') :: news') ls' := ⟨fun p hp hn => ⟨.tail _ hp, hn⟩, [], (List.append_nil _).symm⟩
                  have hDl : D ∉ ls' := fun hq => by
                    obtain ⟨k, hk⟩ := List.getElem?_of_mem hq
                    have hlt : k < rs.2.length := by rw [← S'.len]; exact (List.getElem?_eq_some_iff.mp hk).1
                    obtain ⟨vs, nn, h3, _⟩ := S'.at' k D (rs.2[k]) hk (List.getElem?_eq_getElem hlt)
                    exact off' _ h3 rfl
                  refine hp _ h' tk' _ ls' ⟨⟨m, F', fun k z pv hz hq => ?_⟩, N', ?_, G'.trans gD⟩ (.list (vs := ys') (n := ys'.length) (.inl ⟨.head _, hDl⟩) (RepA.mono gD (by simpa using ra'))) (((g1.trans g2).trans g').trans gD)
                  · obtain ⟨w, hw, rw'⟩ := M' k z pv hz hq
                    exact ⟨w, hw, rw'.mono gD⟩
                  · exact S'.sub fun a o _ hm' => .tail _ hm')
              have el : (turns n.toNat).length = n.toNat := by simp [turns]
              rw [el] at hcr
              exact hcr
      · exact hp.elim
    | _ => exact hp.elim
def namesF (C : Nat → List PV → Store → Out (PV × Store)) (kN kK : Nat) (tp : PV) : EV := fun env σ => (((fun _ σ => .ok ([], σ) : Env' → Store → Out (List PV × Store)) env σ).bind fun r => C kN r.1 r.2).bind fun r =>
  ((((.ok (tp, r.2) : Out (PV × Store)).bind fun v => ((.ok (.int 6, v.2) : Out (PV × Store)).bind fun v2 => (.ok ([], v2.2) : Out (List PV × Store)).bind fun vs => .ok (v2.1 :: vs.1, vs.2)).bind fun vs => .ok (v.1 :: vs.1, vs.2)).bind fun r => C kK r.1 r.2).bind fun q => liftO q.2 (idxP q.2 r.1 q.1))
theorem sx_nil : SX Γ c (execs [] c.env) (fun env σ => .ok (.next, env, σ)) := fun env σ h tk news ls Q I hp => wpAny_execs_nil (hp _ h tk news ls I .next Grow.refl)
theorem sx_seq {s : Stmt} {rest : List Stmt} {f g : EX} (hf : SX Γ c (exec s c.env) f) (hg : SX Γ c (execs rest c.env) g) :
    SX Γ c (execs (s :: rest) c.env) (fun env σ => (f env σ).bind fun q => match q.1 with | .next => g q.2.1 q.2.2 | fl => .ok (fl, q.2.1, q.2.2)) := by
  intro env σ h tk news ls Q I hp
  refine wpAny_execs_cons (hf env σ h tk news ls _ I (PostF.bind hp fun q f h1 tk1 n1 l1 I1 R1 g1 hp1 => ?_))
  obtain ⟨fl, env1, σ1⟩ := q
  dsimp only at *
  cases R1 with
  | next => exact hg env1 σ1 h1 tk1 n1 l1 Q I1 hp1
  | cont => exact hp1 _ h1 tk1 n1 l1 I1 .cont Grow.refl
  | ret r => exact hp1 _ h1 tk1 n1 l1 I1 (.ret r) Grow.refl
def tupF (C : Nat → List PV → Store → Out (PV × Store)) (kK kT : Nat) (tp dp : PV) : Env' → Store → Out (List PV × Store) := fun env σ =>
  ((ev C (.cst (.str [114, 101, 102]))).1 env σ).bind fun v => (((ev C (.var 0)).1 env v.2).bind fun v => ((compF C kK kT tp dp env v.2).bind fun v => (.ok ([], v.2) : Out (List PV × Store)).bind fun vs => .ok (v.1 :: vs.1, vs.2)).bind fun vs => .ok (v.1 :: vs.1, vs.2)).bind fun vs => .ok (v.1 :: vs.1, vs.2)
def refX (C : Nat → List PV → Store → Out (PV × Store)) (kN kK kT : Nat) (tp dp : PV) : EX := fun env σ =>
  ((namesF C kN kK tp env σ).bind fun r => (.ok (Fl.next, env.set 0 (some r.1), r.2) : Out (Fl × Env' × Store))).bind fun q => match q.1 with
    | .next => (((tupF C kK kT tp dp q.2.1 q.2.2).bind fun r => (.ok (.tup r.1, r.2) : Out (PV × Store))).bind fun r => (.ok (Fl.ret r.1, q.2.1, r.2) : Out (Fl × Env' × Store))).bind fun q => match q.1 with | .next => .ok (.next, q.2.1, q.2.2) | fl => .ok (fl, q.2.1, q.2.2)
    | fl => .ok (fl, q.2.1, q.2.2)
theorem sx_ref (gok : Γ.Ok) (cok : c.Ok Γ) {C : Nat → List PV → Store → Out (PV × Store)} (hC0 : CallOk Γ c C) (hC : CallOk Γ c.still C) {kN kK kT : Nat} (hkN : dnames.findIdx? (· == ("_law_names" : Str)) = some kN) (hkK : dnames.findIdx? (· == ("_law_take" : Str)) = some kK) (hkT : dnames.findIdx? (· == ("_law_tree" : Str)) = some kT)
    {a1 a2 : Addr} {v1 v2 : Value} {tp dp : PV} (V1 : CellV Γ c "tape" a1 v1 tp) (V2 : CellV Γ c "deep" a2 v2 dp) (hcc : c.cells = [(("deep" : Str), a2), ("tape", a1)]) (hnm : c.nm = [("name" : Str)]) (hln : c.cs.names.lookup ("name" : Str) = some .local)
    {k1 k2 k3 k4 : Nat} {q1 q2 q3 q4 q5 q6 q7 q8 q9 q10 q11 q12 x1 x2 x3 x4 x5 x6 x7 x8 x9 y1 y2 y3 y4 : Pos} {cscope : Scope} (hl : c.cs.names.lookup ("range" : Str) = some .globalImplicit) (hl2 : c.cs.names.lookup ("_law_take" : Str) = some .globalImplicit) (hl3 : c.cs.names.lookup ("_law_names" : Str) = some .globalImplicit)
    (hcn : cscope.names = [((".0" : Str), .local), ("turn", .local), ("_law_tree", .globalImplicit), ("deep", .free), ("tape", .free)]) (hck : cscope.kind = .function) :
    SX Γ c (execs [.Assign [.Name "name" x1] (.Subscript (.Call (.Name "_law_names" x2) [] [] x3) (.Call (.Name "_law_take" x4) [.Name "tape" x5, .Constant (.int 6) k2 x6] [] x7) x8) x9,
      .Return (some (.Tuple [.Constant (.str "ref") k3 y1, .Name "name" y2, .ListComp (.Call (.Name "_law_tree" q1) [.Name "tape" q2, .Name "deep" q3] [] q4) [⟨.Name "turn" q5, .Call (.Name "range" q6) [.Call (.Name "_law_take" q7) [.Name "tape" q8, .Constant (.int 3) k1 q9] [] q10] [] q11, [], 0⟩] cscope q12] k4 y3)) y4] c.env) (refX C kN kK kT tp dp) := by
  have sN : SE Γ c (eval (.Call (.Name "_law_names" x2) [] [] x3) c.env) _ := se_call gok cok hC0 hl3 (by decide +kernel) hkN (fun e he => nomatch he) (fun _ _ _ => rfl) (fun pos => sl_nil)
  have sK : SE Γ c (eval (.Call (.Name "_law_take" x4) [.Name "tape" x5, .Constant (.int 6) k2 x6] [] x7) c.env) _ := se_call gok cok hC0 hl2 (by decide +kernel) hkK (fun e he => by
    rcases List.mem_cons.mp he with rfl | he
    · rfl
    · rw [List.mem_singleton.mp he]; rfl) (fun h => nomatch h) (fun pos => sl_cons rfl (se_cell cok V1 (by decide +kernel)) (sl_cons rfl (se_cst_int (C := C)) sl_nil))
  have sI := se_idx gok cok (i := .Call (.Name "_law_take" x4) [.Name "tape" x5, .Constant (.int 6) k2 x6] [] x7) (pos := x8) rfl sN sK
  have hslot : slot ⟨c.cs, c.nm, dnames, consts⟩ "name" = some 0 := by
    unfold slot
    rw [hnm]
    show (if _ then some 0 else none) = some 0
    rw [show (CX.mk c.cs [("name" : Str)] dnames consts).sc.names.lookup ("name" : Str) = some .local from hln]
    rfl
  have sA := sx_asg cok (X := ⟨c.cs, c.nm, dnames, consts⟩) (xp := x1) (pos := x9) rfl rfl hslot rfl sI
  have sV : SE Γ c (eval (.Name "name" y2) c.env) (ev C (.var 0)).1 := se_var (C := C) gok cok (X := ⟨c.cs, c.nm, dnames, consts⟩) ⟨rfl, rfl⟩ hslot
  have sC := se_comp gok cok hC hkK hkT V1 V2 hcc (k1 := k1) (q1 := q1) (q2 := q2) (q3 := q3) (q4 := q4) (q5 := q5) (q6 := q6) (q7 := q7) (q8 := q8) (q9 := q9) (q10 := q10) (q11 := q11) (q12 := q12) hl hl2 hcn hck
  have sT := se_tup gok cok (k := k4) (pos := y3) (es := [.Constant (.str "ref") k3 y1, .Name "name" y2, .ListComp (.Call (.Name "_law_tree" q1) [.Name "tape" q2, .Name "deep" q3] [] q4) [⟨.Name "turn" q5, .Call (.Name "range" q6) [.Call (.Name "_law_take" q7) [.Name "tape" q8, .Constant (.int 3) k1 q9] [] q10] [] q11, [], 0⟩] cscope q12]) (f := tupF C kK kT tp dp) (by show 3 ≤ 1000; decide) (fun env σ r hr => ?_)
    (sl_cons rfl (se_cst_str (C := C) (x := "ref") (by decide +kernel)) (sl_cons rfl sV (sl_cons rfl sC sl_nil)))
  · exact sx_seq sA (sx_seq (sx_ret sT) sx_nil)
  · have b1 : ∀ {α β : Type} {o : Out α} {f : α → Out β} {r : β}, o.bind f = .ok r → ∃ a, o = .ok a ∧ f a = .ok r := by
      intro α β o f r h
      cases o with
      | ok a => exact ⟨a, rfl, h⟩
      | exc => cases h
      | stuck => cases h
    unfold tupF at hr
    obtain ⟨a, _, hr⟩ := b1 hr
    obtain ⟨b, hb, hr⟩ := b1 hr
    obtain ⟨d, _, hb⟩ := b1 hb
    obtain ⟨e, he, hb⟩ := b1 hb
    obtain ⟨g, _, he⟩ := b1 he
    obtain ⟨k, hk, he⟩ := b1 he
    cases hk
    cases he
    cases hb
    cases hr
    rfl
end
end Mine
namespace Mine
open PySem PySem.W PySem.Calls PyProof.Rows
section
variable {prog : Program} {w : World} {A₀ A : Around} {s : Shared} {base h₀ : Heap} {outer : List Env} {L : Addr} {m : Str → Option Value} {env : Env} {news : List (Addr × Obj)} {K : Frag}
  {R : Result → Shared → Prop} {name qual : Str} {params : Arguments} {body : List Stmt} {scope : Scope} {dV kV doc pm cdv ct oc : Value} {an od : Option Addr} {osl : Array (Option Value)} {f : Addr} {args : Args} {binds : List (Str × Value)}
  {p : Program} {loose : List Str} {mean : ExcName → Option Value} {mg mb : Str → Option Value}
theorem enterC (B : Below A₀ base outer h₀) (F : Fr h₀ L s.heap m) (X₀ : K.In h₀) (N : News h₀ L s.heap news) (T : Top p loose mean mg mb h₀) (hA : A.frames = some (env :: outer)) (hf : env.frame = some L) (hke : env.scope.kind = .function)
    (ho : K.lookup f = some ⟨oc, od, .func (fnOf name qual params body scope dV kV doc pm an cdv ct), osl⟩) (hcd : codeIn K cdv qual = true) (hroom : A.depth < recursionLimit)
    (hbind : BindsTo s (fnOf name qual params body scope dV kV doc pm an cdv ct) args binds) (hkind : (binds.all fun y => scope.names.lookup y.1 == some .local || scope.names.lookup y.1 == some .cell) = true)
    (hnd : ((cellsFrom 0 scope.names []).map (·.1)).Nodup)
    (h : ∀ g L' h₁ tk cells, Fr h₀ L g m → Fr g L' h₁ (bindL (envOfC qual scope L' f cdv).kindOf binds fun _ => none) → News g L' h₁ (cells ++ news) →
      CellsAre (bindC (envOfC qual scope L' f cdv).kindOf binds fun _ => none) (cellsFrom (L' + 1) scope.names []) cells → Below A base (env :: outer) g → K.In g → Top p loose mean mg mb g → (∀ p ∈ news, p.1 < L') → GSub s.heap g (news.map (·.1)) →
      wpAny (model prog w) (A.deeper (envOfC qual scope L' f cdv)) (execs body (envOfC qual scope L' f cdv))
        (fun fl s' => LeaveK h₀ L m g R (match fl with | .ret v => v | _ => .none) s')
        (fun e s' => wpAny (model prog w) (A.deeper (envOfC qual scope L' f cdv)) (leaving (envOfC qual scope L' f cdv) e) (fun _ s'' => R (.error e) s'') (fun e' s'' => R (.error e') s'') s')
        { s with heap := h₁, toks := tk })
    (hco : scope.isCoroutine = false) (hgen : scope.isGenerator = false) (hk : scope.kind = .function) : codeAny (model prog w) A (.call (.ref f) args) R s := by
  obtain ⟨FG, BG, st, lv⟩ := groundX (R := R) B F N hA hf hke
  refine codeAny_call_function hroom ((X₀.keeps F.keep) _ _ ho) rfl hco hgen rfl (codeRec_of (X₀.keeps F.keep) hcd) (hbind _ _ _ _ ?_)
  refine wpAny_newFunctionEnv_cells hk (kindsX hkind _) fun env' he s' x => ?_
  subst he
  refine ⟨(T.nolimit.keeps F.keep).keeps x.toInCall.keep, codeAny_func ?_⟩
  obtain ⟨h₁, tk, rfl, _⟩ := x.done
  have hk₁ := x.toInCall.keep
  obtain ⟨cells, NC, Y⟩ := Cl.news (h₀ := s.heap) (Nat.le_refl _) fun n c hm => ⟨x.cell n c (lookup_of_mem_nodup (cellsFrom_names scope.names 0 (s.heap.objs.size + 1) [] [] rfl ▸ hnd) hm), x.above n c hm⟩
  refine wpAny_mono (h _ s.heap.objs.size h₁ tk cells FG ⟨x.toInCall.ns, fun b o e => hk₁ b o (of_hideAll _ e), Nat.le_of_eq (hideAll_size _ _)⟩ (fun p hp => ?_) Y BG (X₀.keeps st) (T.keeps st) (fun p hp => Heap.lt_size (N p hp).1) (fun b o e n => hideAll_get _ e n)) (fun fl s' hl => lv _ _ hl) fun _ _ y => y
  rcases List.mem_append.mp hp with hp | hp
  · refine ⟨(NC p hp).1, (NC p hp).2.1, ?_⟩
    cases q : (hideAll s.heap (news.map (·.1))).get? p.1 with
    | none => rfl
    | some o => have := of_hideAll _ q; rw [(NC p hp).2.2] at this; cases this
  · exact ⟨hk₁ _ _ (N p hp).1, Nat.ne_of_lt (Heap.lt_size (N p hp).1), hideAll_none _ (List.mem_map_of_mem hp)⟩
end
def noExc {α : Type} : Out α → Out α
  | .exc => .stuck
  | o => o
def refP (C : Nat → List PV → Store → Out (PV × Store)) (kN kK kT : Nat) (args : List PV) (σ : Store) : Out (PV × Store) := match args with
  | [tp, dp] => noExc ((refX C kN kK kT tp dp [none] σ).bind fun q => leaveP σ.length q.1 q.2.2)
  | _ => .stuck
/-- the def with cells -/
def RefK (K : Frag) (f : Addr) : Prop := ∃ qual scope cdv k1 k2 k3 k4 q1 q2 q3 q4 q5 q6 q7 q8 q9 q10 q11 q12 x1 x2 x3 x4 x5 x6 x7 x8 x9 y1 y2 y3 y4 cscope,
  (∃ name params dV kV doc pm an ct oc od osl, K.lookup f = some ⟨oc, od, .func (fnOf name qual params [.Assign [.Name "name" x1] (.Subscript (.Call (.Name "_law_names" x2) [] [] x3) (.Call (.Name "_law_take" x4) [.Name "tape" x5, .Constant (.int 6) k2 x6] [] x7) x8) x9,
      .Return (some (.Tuple [.Constant (.str "ref") k3 y1, .Name "name" y2, .ListComp (.Call (.Name "_law_tree" q1) [.Name "tape" q2, .Name "deep" q3] [] q4) [⟨.Name "turn" q5, .Call (.Name "range" q6) [.Call (.Name "_law_take" q7) [.Name "tape" q8, .Constant (.int 3) k1 q9] [] q10] [] q11, [], 0⟩] cscope q12] k4 y3)) y4] scope dV kV doc pm an cdv ct), osl⟩ ∧
    ∀ v1 v2 : Value, bindArgs (fnOf name qual params [.Assign [.Name "name" x1] (.Subscript (.Call (.Name "_law_names" x2) [] [] x3) (.Call (.Name "_law_take" x4) [.Name "tape" x5, .Constant (.int 6) k2 x6] [] x7) x8) x9,
      .Return (some (.Tuple [.Constant (.str "ref") k3 y1, .Name "name" y2, .ListComp (.Call (.Name "_law_tree" q1) [.Name "tape" q2, .Name "deep" q3] [] q4) [⟨.Name "turn" q5, .Call (.Name "range" q6) [.Call (.Name "_law_take" q7) [.Name "tape" q8, .Constant (.int 3) k1 q9] [] q10] [] q11, [], 0⟩] cscope q12] k4 y3)) y4] scope dV kV doc pm an cdv ct) ⟨[v1, v2], []⟩ = pure [(("tape" : Str), v1), ("deep", v2)]) ∧
  codeIn K cdv qual = true ∧ scope.isCoroutine = false ∧ scope.isGenerator = false ∧ scope.kind = .function ∧
  scope.names = [(("tape" : Str), .cell), ("deep", .cell), ("name", .local), ("_law_names", .globalImplicit), ("_law_take", .globalImplicit), ("range", .globalImplicit)] ∧
  cscope.names = [((".0" : Str), .local), ("turn", .local), ("_law_tree", .globalImplicit), ("deep", .free), ("tape", .free)] ∧ cscope.kind = .function
section
variable {Γ : GC} {c : FC} {C : Nat → List PV → Store → Out (PV × Store)}
theorem call_ref (gok : Γ.Ok) (cok : c.Ok Γ) {k kN kK kT : Nat} (hkN : dnames.findIdx? (· == ("_law_names" : Str)) = some kN) (hkK : dnames.findIdx? (· == ("_law_take" : Str)) = some kK) (hkT : dnames.findIdx? (· == ("_law_tree" : Str)) = some kT) (D : RefK Γ.KF (Γ.fa k)) (hd : c.dp + 12 < recursionLimit) (hu : c.un + 104 < cLine)
    (hC : ∀ c' : FC, c'.Ok Γ → c'.dp = c.dp + 1 → c'.un = c.un + 3 → CallOk Γ c' C)
    {args : List PV} {env : Env'} {σ : Store} {h : Heap} {tk : Nat} {news : List (Addr × Obj)} {ls : List Addr} {vs : List Value} {Q : Value → Shared → Prop}
    (I : Inv Γ c h env σ news ls) (ra : RepA Γ.base Γ.ta news ls vs args) (hp : PostS Γ c env news ls h Q (refP C kN kK kT args σ)) :
    wpAny (model Γ.prog Γ.w) c.A (call (.ref (Γ.fa k)) vs) Q c.E (Γ.st h tk) := by
  obtain ⟨qual, scope, cdv, k1, k2, k3, k4, q1, q2, q3, q4, q5, q6, q7, q8, q9, q10, q11, q12, x1, x2, x3, x4, x5, x6, x7, x8, x9, y1, y2, y3, y4, cscope, ⟨name, params, dV, kV, doc, pm, an, ct, oc, od, osl, hlook, hbind⟩, hcd, hco, hgen, hk, hn, hcn, hck⟩ := D
  match args, ra with
  | [tp, dp], .cons (v := v1) r1 (.cons (v := v2) r2 .nil) =>
    change PostS Γ c env news ls h Q (noExc ((refX C kN kK kT tp dp [none] σ).bind fun q => leaveP σ.length q.1 q.2.2)) at hp
    have hX := gok.X.keeps cok.B.stays
    have hT := gok.T.keeps cok.B.stays
    obtain ⟨⟨m, F, hm⟩, NN, S, G⟩ := id I
    refine wpAny_call (enterC (s := Γ.st h tk) (binds := [(("tape" : Str), v1), ("deep", v2)]) cok.B F hX NN hT rfl rfl cok.kind hlook hcd (by show c.dp < recursionLimit; omega) (BindsTo.of_eq (hbind v1 v2)) (by rw [hn]; rfl) (by rw [hn]; decide +kernel) (fun g L' h₁ tk1 cells FG F' N' CA B' X' T' hlt GS => ?_) hco hgen hk)
    have hcf : cellsFrom (L' + 1) scope.names [] = [(("deep" : Str), L' + 1 + 1), ("tape", L' + 1)] := by rw [hn]; rfl
    rw [hcf] at CA
    obtain ⟨o2, o1, rfl, hd2, hd1⟩ := CA.two
    let c' : FC := { cn := qual, cs := scope, L := L', a := Γ.fa k, cd := cdv, outer := c.env :: c.outer, g := g, dp := c.dp + 1, un := c.un + 3, gd := c.gd, A₀ := c.A, nm := [("name" : Str)], news₀ := [(L' + 1 + 1, o2), (L' + 1, o1)] ++ news, ls₀ := ls, may := False, own := False, cells := [(("deep" : Str), L' + 1 + 1), ("tape", L' + 1)], E := fun _ _ => False }
    have henv : envOfC qual scope L' (Γ.fa k) cdv = c'.env := by
      unfold envOfC
      rw [hcf]; rfl
    have cok' : c'.Ok Γ := { B := B', kind := hk, nmnd := List.pairwise_singleton _ _, hE := PassesOwn.never, hX := fun h => h.elim, room := by show c.un + 3 + 100 < cLine; omega, roomD := by show c.dp + 1 + 10 < recursionLimit; omega }
    have hoff : ∀ a ∈ ls, a < L' := fun a ha => by
      obtain ⟨j, hj⟩ := List.getElem?_of_mem ha
      have hjl : j < σ.length := by rw [← S.len]; exact (List.getElem?_eq_some_iff.mp hj).1
      obtain ⟨ws, n, h3, _⟩ := S.at' j a (σ[j]) hj (List.getElem?_eq_getElem hjl)
      exact hlt _ h3
    have gcl : Grow news ls ([(L' + 1 + 1, o2), (L' + 1, o1)] ++ news) ls := ⟨fun p hp hn => ⟨List.mem_append_right _ hp, hn⟩, [], (List.append_nil _).symm⟩
    have I' : Inv Γ c' h₁ [none] σ ([(L' + 1 + 1, o2), (L' + 1, o1)] ++ news) ls := by
      refine ⟨⟨_, F', fun j x pv hx he => ?_⟩, N', S.sub fun a o _ q => List.mem_append_right _ q, Grow.refl⟩
      exfalso
      cases j with
      | zero => cases he
      | succ j => cases hx
    have kof : ∀ x, (envOfC qual scope L' (Γ.fa k) cdv).kindOf x = scope.names.lookup x := fun _ => rfl
    have cm : ∀ x, bindC (envOfC qual scope L' (Γ.fa k) cdv).kindOf [(("tape" : Str), v1), ("deep", v2)] (fun _ => none) x = if x = "deep" then some v2 else if x = "tape" then some v1 else none := by
      intro x
      unfold bindC bindC bindC
      rw [kof, kof, hn]
      rfl
    have V1 : CellV Γ c' "tape" (L' + 1) v1 tp := by
      refine ⟨⟨o1, .tail _ (.head _), ?_⟩, fun q => ?_, rfl, by show scope.names.lookup _ = _; rw [hn]; rfl, r1.mono gcl⟩
      · rw [hd1, cm]
        rw [if_neg (by decide +kernel), if_pos rfl]
      · exact absurd (hoff _ q) (Nat.not_lt_of_le (Nat.le_succ _))
    have V2 : CellV Γ c' "deep" (L' + 1 + 1) v2 dp := by
      refine ⟨⟨o2, .head _, ?_⟩, fun q => ?_, rfl, by show scope.names.lookup _ = _; rw [hn]; rfl, r2.mono gcl⟩
      · rw [hd2, cm, if_pos rfl]
      · exact absurd (hoff _ q) (Nat.not_lt_of_le (Nat.le_succ_of_le (Nat.le_succ _)))
    rw [henv]
    refine wpAny_mono (E := c'.E) ?_ (fun _ _ x => x) (fun _ _ x => x.elim)
    refine sx_ref gok cok' (hC c' cok' rfl rfl) (hC c' cok' rfl rfl) hkN hkK hkT V1 V2 rfl rfl (by show scope.names.lookup _ = _; rw [hn]; rfl) (by show scope.names.lookup _ = _; rw [hn]; rfl) (by show scope.names.lookup _ = _; rw [hn]; rfl) (by show scope.names.lookup _ = _; rw [hn]; rfl) hcn hck [none] σ h₁ tk1 _ ls _ I' ?_
    cases hr : refX C kN kK kT tp dp [none] σ with
    | exc => rw [hr] at hp; exact hp.elim
    | stuck => rw [hr] at hp; exact hp.elim
    | ok q =>
      rw [hr] at hp
      intro fl h' tk' news' ls' I2 rf gr
      obtain ⟨⟨m2, F2, _⟩, N2, S2, G2⟩ := I2
      change PostS _ _ _ _ _ _ _ (noExc (leaveP σ.length q.1 q.2.2)) at hp
      cases hlv : leaveP σ.length q.1 q.2.2 with
      | exc => rw [hlv] at hp; exact hp.elim
      | stuck => rw [hlv] at hp; exact hp.elim
      | ok o =>
        rw [hlv] at hp
        refine leaveK_ (s' := Γ.st h' tk') F2 N2 (back cok (c' := c') (fl := q.1) hm S G F2 N2 S2 (gcl.trans gr) ?_ hlv GS hp)
        obtain ⟨q1, q2, q3⟩ := q
        dsimp only at rf ⊢
        cases rf with
        | next => exact .none
        | cont => exact .none
        | ret r => exact r
  | [], _ => exact hp.elim
  | [_], _ => exact hp.elim
  | _ :: _ :: _ :: _, _ => exact hp.elim
end
end Mine
namespace Mine
open PySem PySem.W PySem.Calls PyProof.Rows
def c0 : FD := ⟨3, 4, .cons (.asg 3 (.var 1)) (.cons (.whl (.bool true (.cons (.cmp .lt (.var 3) (.bi .len (.cons (.var 0) .nil))) (.cons (.cmp .isin (.idx (.var 0) (.var 3)) (.var 2)) .nil))) (.cons (.aug 3 .add (.cst (.int 1))) .nil)) (.cons (.ret (.var 3)) .nil))⟩
def c1 : FD := ⟨2, 4, .cons (.asg 2 (.call 0 (.cons (.var 0) (.cons (.bin .add (.var 1) (.cst (.int 1))) (.cons (.cst (.str [65, 66, 67, 68, 69, 70, 71, 72, 73, 74, 75, 76, 77, 78, 79, 80, 81, 82, 83, 84, 85, 86, 87, 88, 89, 90])) .nil))))) (.cons (.asg 3 (.cut (.var 0) (.var 1) (.bin .add (.var 2) (.cst (.int 1))))) (.cons (.iff (.bool false (.cons (.cmp .isin (.var 3) (.cst (.tup [.str [46, 69, 81, 46], .str [46, 78, 69, 46], .str [46, 76, 84, 46], .str [46, 76, 69, 46], .str [46, 71, 84, 46], .str [46, 71, 69, 46], .str [46, 78, 79, 84, 46], .str [46, 65, 78, 68, 46], .str [46, 79, 82, 46], .str [46, 69, 81, 86, 46], .str [46, 78, 69, 81, 86, 46]]))) (.cons (.cmp .isin (.var 3) (.cst (.tup [.str [46, 84, 82, 85, 69, 46], .str [46, 70, 65, 76, 83, 69, 46]]))) .nil))) (.cons (.ret (.var 3)) .nil) .nil) (.cons (.ret (.cst (.str []))) .nil)))⟩
def c2 : FD := ⟨2, 3, .cons (.asg 2 (.bi .int (.cons (.var 0) .nil))) (.cons (.iff (.cmp .eq (.var 2) (.cst (.int 0))) (.cons (.ret (.tup (.cons (.cst (.int 0)) (.cons (.cst (.int 0)) .nil)))) .nil) .nil) (.cons (.whl (.cmp .eq (.bin .mod (.var 2) (.cst (.int 10))) (.cst (.int 0))) (.cons (.aug 2 .div (.cst (.int 10))) (.cons (.aug 1 .add (.cst (.int 1))) .nil))) (.cons (.ret (.tup (.cons (.var 2) (.cons (.var 1) .nil)))) .nil)))⟩
def c3 : FD := ⟨2, 5, .cons (.iff (.bool false (.cons (.cmp .ge (.var 1) (.bi .len (.cons (.var 0) .nil))) (.cons (.cmp .notin (.idx (.var 0) (.var 1)) (.cst (.str [69, 68]))) .nil))) (.cons (.ret (.tup (.cons (.cst (.str [])) (.cons (.cst (.int 0)) (.cons (.var 1) .nil))))) .nil) .nil) (.cons (.asg 2 (.bin .add (.var 1) (.cst (.int 1)))) (.cons (.iff (.bool true (.cons (.cmp .lt (.var 2) (.bi .len (.cons (.var 0) .nil))) (.cons (.cmp .isin (.idx (.var 0) (.var 2)) (.cst (.str [43, 45]))) .nil))) (.cons (.aug 2 .add (.cst (.int 1))) .nil) .nil) (.cons (.asg 3 (.call 0 (.cons (.var 0) (.cons (.var 2) (.cons (.cst (.str [48, 49, 50, 51, 52, 53, 54, 55, 56, 57])) .nil))))) (.cons (.iff (.cmp .eq (.var 3) (.var 2)) (.cons (.ret (.tup (.cons (.cst (.str [])) (.cons (.cst (.int 0)) (.cons (.var 1) .nil))))) .nil) .nil) (.cons (.iff (.cmp .gt (.bin .sub (.var 3) (.var 2)) (.cst (.int 1000))) (.cons (.raise 0 (.cons (.var 1) (.cons (.cst (.str [97, 110, 32, 101, 120, 112, 111, 110, 101, 110, 116, 32, 104, 97, 115, 32, 116, 111, 111, 32, 109, 97, 110, 121, 32, 100, 105, 103, 105, 116, 115])) .nil))) .nil) .nil) (.cons (.asg 4 (.bi .int (.cons (.cut (.var 0) (.var 2) (.var 3)) .nil))) (.cons (.iff (.cmp .eq (.idx (.var 0) (.bin .add (.var 1) (.cst (.int 1)))) (.cst (.str [45]))) (.cons (.asg 4 (.neg (.var 4))) .nil) .nil) (.cons (.ret (.tup (.cons (.idx (.var 0) (.var 1)) (.cons (.var 4) (.cons (.var 3) .nil))))) .nil))))))))⟩
def c4 : FD := ⟨2, 10, .cons (.asg 2 (.call 0 (.cons (.var 0) (.cons (.var 1) (.cons (.cst (.str [48, 49, 50, 51, 52, 53, 54, 55, 56, 57])) .nil))))) (.cons (.asg 3 (.cut (.var 0) (.var 1) (.var 2))) (.cons (.asg 4 (.cst (.str []))) (.cons (.asg 5 (.bool true (.cons (.cmp .lt (.var 2) (.bi .len (.cons (.var 0) .nil))) (.cons (.cmp .eq (.idx (.var 0) (.var 2)) (.cst (.str [46]))) (.cons (.cmp .eq (.call 1 (.cons (.var 0) (.cons (.var 2) .nil))) (.cst (.str []))) .nil))))) (.cons (.iff (.var 5) (.cons (.asg 6 (.call 0 (.cons (.var 0) (.cons (.bin .add (.var 2) (.cst (.int 1))) (.cons (.cst (.str [48, 49, 50, 51, 52, 53, 54, 55, 56, 57])) .nil))))) (.cons (.asg 4 (.cut (.var 0) (.bin .add (.var 2) (.cst (.int 1))) (.var 6))) (.cons (.asg 2 (.var 6)) .nil))) .nil) (.cons (.asgT [7, 8, 2] (.call 3 (.cons (.var 0) (.cons (.var 2) .nil)))) (.cons (.iff (.cmp .gt (.bin .sub (.var 2) (.var 1)) (.cst (.int 1000))) (.cons (.raise 0 (.cons (.var 1) (.cons (.cst (.str [97, 32, 110, 117, 109, 98, 101, 114, 32, 104, 97, 115, 32, 116, 111, 111, 32, 109, 97, 110, 121, 32, 100, 105, 103, 105, 116, 115])) .nil))) .nil) .nil) (.cons (.iff (.bool true (.cons (.not (.var 5)) (.cons (.cmp .eq (.var 7) (.cst (.str []))) .nil))) (.cons (.ret (.tup (.cons (.tup (.cons (.cst (.str [73, 78, 84])) (.cons (.bi .int (.cons (.var 3) .nil)) (.cons (.var 1) .nil)))) (.cons (.var 2) .nil)))) .nil) .nil) (.cons (.asg 9 (.call 2 (.cons (.bin .add (.var 3) (.var 4)) (.cons (.bin .sub (.var 8) (.bi .len (.cons (.var 4) .nil))) .nil)))) (.cons (.iff (.cmp .eq (.var 7) (.cst (.str [68]))) (.cons (.ret (.tup (.cons (.tup (.cons (.cst (.str [68, 66, 76, 69])) (.cons (.var 9) (.cons (.var 1) .nil)))) (.cons (.var 2) .nil)))) .nil) .nil) (.cons (.ret (.tup (.cons (.tup (.cons (.cst (.str [82, 69, 65, 76])) (.cons (.var 9) (.cons (.var 1) .nil)))) (.cons (.var 2) .nil)))) .nil))))))))))⟩
def c5 : FD := ⟨2, 4, .cons (.asg 2 (.cst (.str []))) (.cons (.asg 3 (.bin .add (.var 1) (.cst (.int 1)))) (.cons (.whl (.cmp .lt (.var 3) (.bi .len (.cons (.var 0) .nil))) (.cons (.iff (.cmp .ne (.idx (.var 0) (.var 3)) (.cst (.str [39]))) (.cons (.aug 2 .add (.idx (.var 0) (.var 3))) (.cons (.aug 3 .add (.cst (.int 1))) .nil)) (.cons (.iff (.cmp .eq (.cut (.var 0) (.bin .add (.var 3) (.cst (.int 1))) (.bin .add (.var 3) (.cst (.int 2)))) (.cst (.str [39]))) (.cons (.aug 2 .add (.cst (.str [39]))) (.cons (.aug 3 .add (.cst (.int 2))) .nil)) (.cons (.ret (.tup (.cons (.tup (.cons (.cst (.str [67, 72, 65, 82])) (.cons (.var 2) (.cons (.var 1) .nil)))) (.cons (.bin .add (.var 3) (.cst (.int 1))) .nil)))) .nil)) .nil)) .nil)) (.cons (.raise 0 (.cons (.var 1) (.cons (.cst (.str [97, 32, 99, 104, 97, 114, 97, 99, 116, 101, 114, 32, 99, 111, 110, 115, 116, 97, 110, 116, 32, 104, 97, 115, 32, 110, 111, 32, 101, 110, 100])) .nil))) .nil)))⟩
def c6 : FD := ⟨2, 3, .cons (.asg 2 (.call 0 (.cons (.var 0) (.cons (.var 1) (.cons (.bin .add (.cst (.str [65, 66, 67, 68, 69, 70, 71, 72, 73, 74, 75, 76, 77, 78, 79, 80, 81, 82, 83, 84, 85, 86, 87, 88, 89, 90])) (.cst (.str [48, 49, 50, 51, 52, 53, 54, 55, 56, 57]))) .nil))))) (.cons (.iff (.cmp .gt (.bin .sub (.var 2) (.var 1)) (.cst (.int 6))) (.cons (.raise 0 (.cons (.var 1) (.cons (.cst (.str [97, 32, 110, 97, 109, 101, 32, 104, 97, 115, 32, 109, 111, 114, 101, 32, 116, 104, 97, 110, 32, 115, 105, 120, 32, 115, 105, 103, 110, 115])) .nil))) .nil) .nil) (.cons (.ret (.tup (.cons (.tup (.cons (.cst (.str [78, 65, 77, 69])) (.cons (.cut (.var 0) (.var 1) (.var 2)) (.cons (.var 1) .nil)))) (.cons (.var 2) .nil)))) .nil))⟩
def c7 : FD := ⟨2, 3, .cons (.iff (.bool true (.cons (.cmp .lt (.bin .add (.var 1) (.cst (.int 1))) (.bi .len (.cons (.var 0) .nil))) (.cons (.cmp .isin (.idx (.var 0) (.bin .add (.var 1) (.cst (.int 1)))) (.cst (.str [48, 49, 50, 51, 52, 53, 54, 55, 56, 57]))) .nil))) (.cons (.ret (.call 4 (.cons (.var 0) (.cons (.var 1) .nil)))) .nil) .nil) (.cons (.asg 2 (.call 1 (.cons (.var 0) (.cons (.var 1) .nil)))) (.cons (.iff (.cmp .eq (.var 2) (.cst (.str []))) (.cons (.raise 0 (.cons (.var 1) (.cons (.cst (.str [97, 32, 112, 111, 105, 110, 116, 32, 116, 104, 97, 116, 32, 98, 101, 103, 105, 110, 115, 32, 110, 111, 116, 104, 105, 110, 103])) .nil))) .nil) .nil) (.cons (.iff (.cmp .isin (.var 2) (.cst (.tup [.str [46, 84, 82, 85, 69, 46], .str [46, 70, 65, 76, 83, 69, 46]]))) (.cons (.ret (.tup (.cons (.tup (.cons (.cst (.str [76, 79, 71])) (.cons (.cmp .eq (.var 2) (.cst (.str [46, 84, 82, 85, 69, 46]))) (.cons (.var 1) .nil)))) (.cons (.bin .add (.var 1) (.bi .len (.cons (.var 2) .nil))) .nil)))) .nil) .nil) (.cons (.ret (.tup (.cons (.tup (.cons (.cst (.str [79, 80])) (.cons (.var 2) (.cons (.var 1) .nil)))) (.cons (.bin .add (.var 1) (.bi .len (.cons (.var 2) .nil))) .nil)))) .nil))))⟩
def c8 : FD := ⟨2, 4, .cons (.asg 2 (.idx (.var 0) (.var 1))) (.cons (.iff (.cmp .isin (.var 2) (.cst (.str [65, 66, 67, 68, 69, 70, 71, 72, 73, 74, 75, 76, 77, 78, 79, 80, 81, 82, 83, 84, 85, 86, 87, 88, 89, 90]))) (.cons (.ret (.call 6 (.cons (.var 0) (.cons (.var 1) .nil)))) .nil) .nil) (.cons (.iff (.cmp .isin (.var 2) (.cst (.str [48, 49, 50, 51, 52, 53, 54, 55, 56, 57]))) (.cons (.ret (.call 4 (.cons (.var 0) (.cons (.var 1) .nil)))) .nil) .nil) (.cons (.iff (.cmp .eq (.var 2) (.cst (.str [46]))) (.cons (.ret (.call 7 (.cons (.var 0) (.cons (.var 1) .nil)))) .nil) .nil) (.cons (.iff (.cmp .eq (.var 2) (.cst (.str [39]))) (.cons (.ret (.call 5 (.cons (.var 0) (.cons (.var 1) .nil)))) .nil) .nil) (.cons (.iff (.cmp .notin (.var 2) (.cst (.str [43, 45, 42, 47, 40, 41, 44, 61, 58]))) (.cons (.raise 0 (.cons (.var 1) (.cons (.cst (.str [97, 32, 115, 105, 103, 110, 32, 116, 104, 97, 116, 32, 98, 101, 103, 105, 110, 115, 32, 110, 111, 116, 104, 105, 110, 103])) .nil))) .nil) .nil) (.cons (.asg 3 (.bin .add (.var 1) (.cst (.int 1)))) (.cons (.iff (.bool true (.cons (.cmp .isin (.var 2) (.cst (.str [42, 47]))) (.cons (.cmp .eq (.cut (.var 0) (.var 3) (.bin .add (.var 3) (.cst (.int 1)))) (.var 2)) .nil))) (.cons (.aug 3 .add (.cst (.int 1))) .nil) .nil) (.cons (.ret (.tup (.cons (.tup (.cons (.cst (.str [79, 80])) (.cons (.cut (.var 0) (.var 1) (.var 3)) (.cons (.var 1) .nil)))) (.cons (.var 3) .nil)))) .nil))))))))⟩
def c9 : FD := ⟨1, 4, .cons (.asg 1 (.lst .nil)) (.cons (.asg 2 (.cst (.int 0))) (.cons (.whl (.cmp .lt (.var 2) (.bi .len (.cons (.var 0) .nil))) (.cons (.asgT [3, 2] (.call 8 (.cons (.var 0) (.cons (.var 2) .nil)))) (.cons (.exp (.me .append (.var 1) (.cons (.var 3) .nil))) .nil))) (.cons (.ret (.var 1)) .nil)))⟩
def c10 : FD := ⟨1, 1, .cons (.ret (.bin .mul (.cst (.str [48])) (.bi .max (.cons (.var 0) (.cons (.cst (.int 0)) .nil))))) .nil⟩
def c11 : FD := ⟨2, 5, .cons (.asgT [2, 3] (.var 0)) (.cons (.asg 4 (.bi .str (.cons (.var 2) .nil))) (.cons (.iff (.bool false (.cons (.cmp .eq (.var 1) (.cst (.str [68]))) (.cons (.cmp .gt (.var 3) (.cst (.int 0))) (.cons (.cmp .lt (.var 3) (.neg (.cst (.int 12)))) .nil)))) (.cons (.ret (.bin .add (.bin .add (.bin .add (.var 4) (.cst (.str [46]))) (.var 1)) (.bi .str (.cons (.var 3) .nil)))) .nil) .nil) (.cons (.iff (.cmp .eq (.var 3) (.cst (.int 0))) (.cons (.ret (.bin .add (.var 4) (.cst (.str [46])))) .nil) .nil) (.cons (.iff (.cmp .le (.bi .len (.cons (.var 4) .nil)) (.neg (.var 3))) (.cons (.ret (.bin .add (.bin .add (.cst (.str [46])) (.call 10 (.cons (.bin .sub (.neg (.var 3)) (.bi .len (.cons (.var 4) .nil))) .nil))) (.var 4))) .nil) .nil) (.cons (.ret (.bin .add (.bin .add (.cut (.var 4) (.cst .none) (.var 3)) (.cst (.str [46]))) (.cut (.var 4) (.var 3) (.cst .none)))) .nil)))))⟩
def c13 : FD := ⟨1, 1, .cons (.iff (.cmp .eq (.idx (.var 0) (.cst (.int 0))) (.cst (.str [98, 105, 110]))) (.cons (.ret (.idx (.idx (.cst (.tab 0)) (.idx (.var 0) (.cst (.int 1)))) (.cst (.int 0)))) .nil) .nil) (.cons (.iff (.cmp .eq (.idx (.var 0) (.cst (.int 0))) (.cst (.str [117, 110]))) (.cons (.ret (.idx (.idx (.cst (.tab 1)) (.idx (.var 0) (.cst (.int 1)))) (.cst (.int 0)))) .nil) .nil) (.cons (.ret (.cst (.int 10))) .nil))⟩
def c14 : FD := ⟨2, 2, .cons (.iff (.cmp .lt (.call 13 (.cons (.var 0) .nil)) (.var 1)) (.cons (.ret (.bin .add (.bin .add (.cst (.str [40])) (.call 20 (.cons (.var 0) .nil))) (.cst (.str [41])))) .nil) .nil) (.cons (.ret (.call 20 (.cons (.var 0) .nil))) .nil)⟩
def c16 : FD := ⟨1, 2, .cons (.asg 1 (.cst (.str []))) (.cons (.iff (.cmp .lt (.idx (.var 0) (.cst (.int 1))) (.cst (.int 0))) (.cons (.asg 1 (.cst (.str [45]))) .nil) .nil) (.cons (.iff (.cmp .eq (.idx (.var 0) (.cst (.int 0))) (.cst (.str [105, 110, 116]))) (.cons (.ret (.bin .add (.var 1) (.bi .str (.cons (.bi .abs (.cons (.idx (.var 0) (.cst (.int 1))) .nil)) .nil)))) .nil) .nil) (.cons (.ret (.bin .add (.var 1) (.call 11 (.cons (.tup (.cons (.bi .abs (.cons (.idx (.var 0) (.cst (.int 1))) .nil)) (.cons (.idx (.var 0) (.cst (.int 2))) .nil))) (.cons (.ite (.cmp .eq (.idx (.var 0) (.cst (.int 0))) (.cst (.str [100, 98, 108, 101]))) (.cst (.str [68])) (.cst (.str [69]))) .nil))))) .nil)))⟩
def c17 : FD := ⟨1, 1, .cons (.iff (.cmp .eq (.idx (.var 0) (.cst (.int 0))) (.cst (.str [99, 104, 97, 114]))) (.cons (.ret (.call 12 (.cons (.idx (.var 0) (.cst (.int 1))) .nil))) .nil) .nil) (.cons (.iff (.cmp .eq (.idx (.var 0) (.cst (.int 0))) (.cst (.str [108, 111, 103]))) (.cons (.ret (.ite (.idx (.var 0) (.cst (.int 1))) (.cst (.str [46, 84, 82, 85, 69, 46])) (.cst (.str [46, 70, 65, 76, 83, 69, 46])))) .nil) .nil) (.cons (.iff (.cmp .eq (.idx (.var 0) (.cst (.int 0))) (.cst (.str [99, 112, 108, 120]))) (.cons (.ret (.bin .add (.bin .add (.bin .add (.bin .add (.cst (.str [40])) (.call 16 (.cons (.idx (.var 0) (.cst (.int 1))) .nil))) (.cst (.str [44]))) (.call 16 (.cons (.idx (.var 0) (.cst (.int 2))) .nil))) (.cst (.str [41])))) .nil) .nil) (.cons (.ret (.call 16 (.cons (.var 0) .nil))) .nil)))⟩
def c18 : FD := ⟨1, 1, .cons (.iff (.cmp .is (.var 0) (.cst .none)) (.cons (.ret (.cst (.str []))) .nil) .nil) (.cons (.ret (.call 20 (.cons (.var 0) .nil))) .nil)⟩
def c19 : FD := ⟨1, 2, .cons (.asg 1 (.bin .add (.bin .add (.bin .add (.bin .add (.bin .add (.bin .add (.bin .add (.cst (.str [40])) (.call 15 (.cons (.idx (.var 0) (.cst (.int 1))) .nil))) (.cst (.str [44]))) (.idx (.var 0) (.cst (.int 2)))) (.cst (.str [61]))) (.call 20 (.cons (.idx (.var 0) (.cst (.int 3))) .nil))) (.cst (.str [44]))) (.call 20 (.cons (.idx (.var 0) (.cst (.int 4))) .nil)))) (.cons (.iff (.cmp .isnot (.idx (.var 0) (.cst (.int 5))) (.cst .none)) (.cons (.aug 1 .add (.bin .add (.cst (.str [44])) (.call 20 (.cons (.idx (.var 0) (.cst (.int 5))) .nil)))) .nil) .nil) (.cons (.ret (.bin .add (.var 1) (.cst (.str [41])))) .nil))⟩
def c20 : FD := ⟨1, 5, .cons (.asg 1 (.idx (.var 0) (.cst (.int 0)))) (.cons (.iff (.cmp .eq (.var 1) (.cst (.str [98, 105, 110]))) (.cons (.asgT [2, 3, 4] (.idx (.cst (.tab 0)) (.idx (.var 0) (.cst (.int 1))))) (.cons (.ret (.bin .add (.bin .add (.call 14 (.cons (.idx (.var 0) (.cst (.int 2))) (.cons (.var 3) .nil))) (.idx (.var 0) (.cst (.int 1)))) (.call 14 (.cons (.idx (.var 0) (.cst (.int 3))) (.cons (.var 4) .nil))))) .nil)) .nil) (.cons (.iff (.cmp .eq (.var 1) (.cst (.str [117, 110]))) (.cons (.ret (.bin .add (.idx (.var 0) (.cst (.int 1))) (.call 14 (.cons (.idx (.var 0) (.cst (.int 2))) (.cons (.idx (.idx (.cst (.tab 1)) (.idx (.var 0) (.cst (.int 1)))) (.cst (.int 1))) .nil))))) .nil) .nil) (.cons (.iff (.cmp .eq (.var 1) (.cst (.str [110, 97, 109, 101]))) (.cons (.ret (.idx (.var 0) (.cst (.int 1)))) .nil) .nil) (.cons (.iff (.cmp .eq (.var 1) (.cst (.str [114, 101, 102]))) (.cons (.ret (.bin .add (.bin .add (.bin .add (.idx (.var 0) (.cst (.int 1))) (.cst (.str [40]))) (.call 15 (.cons (.idx (.var 0) (.cst (.int 2))) .nil))) (.cst (.str [41])))) .nil) .nil) (.cons (.iff (.cmp .eq (.var 1) (.cst (.str [115, 117, 98]))) (.cons (.ret (.bin .add (.bin .add (.bin .add (.bin .add (.bin .add (.call 20 (.cons (.idx (.var 0) (.cst (.int 1))) .nil)) (.cst (.str [40]))) (.call 18 (.cons (.idx (.var 0) (.cst (.int 2))) .nil))) (.cst (.str [58]))) (.call 18 (.cons (.idx (.var 0) (.cst (.int 3))) .nil))) (.cst (.str [41])))) .nil) .nil) (.cons (.iff (.cmp .eq (.var 1) (.cst (.str [97, 108, 116]))) (.cons (.ret (.bin .add (.cst (.str [42])) (.bi .str (.cons (.idx (.var 0) (.cst (.int 1))) .nil)))) .nil) .nil) (.cons (.iff (.cmp .eq (.var 1) (.cst (.str [105, 100, 111]))) (.cons (.ret (.call 19 (.cons (.var 0) .nil))) .nil) .nil) (.cons (.ret (.call 17 (.cons (.var 0) .nil))) .nil))))))))⟩
def c21 : FD := ⟨2, 2, .cons (.iff (.cmp .lt (.var 1) (.bi .len (.cons (.var 0) .nil))) (.cons (.ret (.idx (.idx (.var 0) (.var 1)) (.cst (.int 0)))) .nil) .nil) (.cons (.ret (.cst (.str []))) .nil)⟩
def c22 : FD := ⟨3, 3, .cons (.ret (.bool true (.cons (.cmp .lt (.var 1) (.bi .len (.cons (.var 0) .nil))) (.cons (.cmp .eq (.idx (.idx (.var 0) (.var 1)) (.cst (.int 0))) (.cst (.str [79, 80]))) (.cons (.cmp .eq (.idx (.idx (.var 0) (.var 1)) (.cst (.int 1))) (.var 2)) .nil))))) .nil⟩
def c23 : FD := ⟨3, 3, .cons (.iff (.not (.call 22 (.cons (.var 0) (.cons (.var 1) (.cons (.var 2) .nil))))) (.cons (.raise 1 (.cons (.bin .add (.cst (.str [97, 32, 109, 97, 114, 107, 32, 105, 115, 32, 109, 105, 115, 115, 105, 110, 103, 58, 32])) (.var 2)) .nil)) .nil) .nil) (.cons (.ret (.bin .add (.var 1) (.cst (.int 1)))) .nil)⟩
def c24 : FD := ⟨2, 2, .cons (.iff (.cmp .ne (.call 21 (.cons (.var 0) (.cons (.var 1) .nil))) (.cst (.str [78, 65, 77, 69]))) (.cons (.raise 1 (.cons (.cst (.str [97, 32, 110, 97, 109, 101, 32, 105, 115, 32, 109, 105, 115, 115, 105, 110, 103])) .nil)) .nil) .nil) (.cons (.ret (.tup (.cons (.idx (.idx (.var 0) (.var 1)) (.cst (.int 1))) (.cons (.bin .add (.var 1) (.cst (.int 1))) .nil)))) .nil)⟩
def c25 : FD := ⟨2, 2, .cons (.iff (.cmp .ne (.call 21 (.cons (.var 0) (.cons (.var 1) .nil))) (.cst (.str [73, 78, 84]))) (.cons (.raise 1 (.cons (.cst (.str [97, 32, 119, 104, 111, 108, 101, 32, 110, 117, 109, 98, 101, 114, 32, 105, 115, 32, 109, 105, 115, 115, 105, 110, 103])) .nil)) .nil) .nil) (.cons (.ret (.tup (.cons (.idx (.idx (.var 0) (.var 1)) (.cst (.int 1))) (.cons (.bin .add (.var 1) (.cst (.int 1))) .nil)))) .nil)⟩
def c26 : FD := ⟨2, 4, .cons (.asg 2 (.cst (.int 0))) (.cons (.forr 3 (.var 1) (.bi .len (.cons (.var 0) .nil)) (.cons (.iff (.call 22 (.cons (.var 0) (.cons (.var 3) (.cons (.cst (.str [40])) .nil)))) (.cons (.aug 2 .add (.cst (.int 1))) .nil) (.cons (.iff (.call 22 (.cons (.var 0) (.cons (.var 3) (.cons (.cst (.str [41])) .nil)))) (.cons (.aug 2 .sub (.cst (.int 1))) (.cons (.iff (.cmp .eq (.var 2) (.cst (.int 0))) (.cons (.ret (.var 3)) .nil) .nil) .nil)) .nil) .nil)) .nil)) (.cons (.raise 1 (.cons (.cst (.str [97, 32, 98, 114, 97, 99, 107, 101, 116, 32, 105, 115, 32, 110, 111, 116, 32, 99, 108, 111, 115, 101, 100])) .nil)) .nil))⟩
def c27 : FD := ⟨2, 2, .cons (.iff (.cmp .ne (.call 21 (.cons (.var 0) (.cons (.var 1) .nil))) (.cst (.str [79, 80]))) (.cons (.ret (.cst (.int 0))) .nil) .nil) (.cons (.ret (.me .get (.cst (.tab 2)) (.cons (.idx (.idx (.var 0) (.var 1)) (.cst (.int 1))) (.cons (.cst (.int 0)) .nil)))) .nil)⟩
def c28 : FD := ⟨2, 2, .cons (.ret (.call 29 (.cons (.var 0) (.cons (.var 1) (.cons (.cst (.int 1)) .nil))))) .nil⟩
def c29 : FD := ⟨3, 8, .cons (.asgT [3, 1] (.call 30 (.cons (.var 0) (.cons (.var 1) (.cons (.var 2) .nil))))) (.cons (.asg 4 (.cst (.bool false))) (.cons (.whl (.cmp .ge (.call 27 (.cons (.var 0) (.cons (.var 1) .nil))) (.var 2)) (.cons (.asg 5 (.call 27 (.cons (.var 0) (.cons (.var 1) .nil)))) (.cons (.asg 6 (.idx (.idx (.var 0) (.var 1)) (.cst (.int 1)))) (.cons (.iff (.bool true (.cons (.cmp .eq (.var 5) (.cst (.int 5))) (.cons (.var 4) .nil))) (.cons (.raise 1 (.cons (.cst (.str [97, 32, 114, 101, 108, 97, 116, 105, 111, 110, 32, 98, 101, 104, 105, 110, 100, 32, 97, 32, 114, 101, 108, 97, 116, 105, 111, 110])) .nil)) .nil) .nil) (.cons (.iff (.cmp .eq (.var 5) (.cst (.int 9))) (.cons (.asgT [7, 1] (.call 29 (.cons (.var 0) (.cons (.bin .add (.var 1) (.cst (.int 1))) (.cons (.cst (.int 9)) .nil))))) .nil) (.cons (.asgT [7, 1] (.call 29 (.cons (.var 0) (.cons (.bin .add (.var 1) (.cst (.int 1))) (.cons (.bin .add (.var 5) (.cst (.int 1))) .nil))))) .nil)) (.cons (.asg 3 (.tup (.cons (.cst (.str [98, 105, 110])) (.cons (.var 6) (.cons (.var 3) (.cons (.var 7) .nil)))))) (.cons (.asg 4 (.cmp .eq (.var 5) (.cst (.int 5)))) .nil))))))) (.cons (.ret (.tup (.cons (.var 3) (.cons (.var 1) .nil)))) .nil)))⟩
def c30 : FD := ⟨3, 5, .cons (.iff (.call 22 (.cons (.var 0) (.cons (.var 1) (.cons (.cst (.str [46, 78, 79, 84, 46])) .nil)))) (.cons (.iff (.cmp .gt (.var 2) (.cst (.int 4))) (.cons (.raise 1 (.cons (.cst (.str [46, 78, 79, 84, 46, 32, 99, 97, 110, 110, 111, 116, 32, 115, 116, 97, 110, 100, 32, 104, 101, 114, 101])) .nil)) .nil) .nil) (.cons (.asgT [3, 1] (.call 29 (.cons (.var 0) (.cons (.bin .add (.var 1) (.cst (.int 1))) (.cons (.bin .add (.cst (.int 4)) (.cst (.int 1))) .nil))))) (.cons (.ret (.tup (.cons (.tup (.cons (.cst (.str [117, 110])) (.cons (.cst (.str [46, 78, 79, 84, 46])) (.cons (.var 3) .nil)))) (.cons (.var 1) .nil)))) .nil))) .nil) (.cons (.iff (.bool false (.cons (.call 22 (.cons (.var 0) (.cons (.var 1) (.cons (.cst (.str [43])) .nil)))) (.cons (.call 22 (.cons (.var 0) (.cons (.var 1) (.cons (.cst (.str [45])) .nil)))) .nil))) (.cons (.iff (.cmp .gt (.var 2) (.cst (.int 7))) (.cons (.raise 1 (.cons (.cst (.str [97, 32, 115, 105, 103, 110, 32, 99, 97, 110, 110, 111, 116, 32, 115, 116, 97, 110, 100, 32, 104, 101, 114, 101])) .nil)) .nil) .nil) (.cons (.asg 4 (.idx (.idx (.var 0) (.var 1)) (.cst (.int 1)))) (.cons (.asgT [3, 1] (.call 29 (.cons (.var 0) (.cons (.bin .add (.var 1) (.cst (.int 1))) (.cons (.bin .add (.cst (.int 7)) (.cst (.int 1))) .nil))))) (.cons (.ret (.tup (.cons (.tup (.cons (.cst (.str [117, 110])) (.cons (.var 4) (.cons (.var 3) .nil)))) (.cons (.var 1) .nil)))) .nil)))) .nil) (.cons (.ret (.call 31 (.cons (.var 0) (.cons (.var 1) .nil)))) .nil))⟩
def c31 : FD := ⟨2, 3, .cons (.asg 2 (.call 21 (.cons (.var 0) (.cons (.var 1) .nil)))) (.cons (.iff (.cmp .eq (.var 2) (.cst (.str [78, 65, 77, 69]))) (.cons (.ret (.call 37 (.cons (.var 0) (.cons (.var 1) .nil)))) .nil) .nil) (.cons (.iff (.bool true (.cons (.cmp .eq (.var 2) (.cst (.str [79, 80]))) (.cons (.cmp .eq (.idx (.idx (.var 0) (.var 1)) (.cst (.int 1))) (.cst (.str [40]))) .nil))) (.cons (.ret (.call 33 (.cons (.var 0) (.cons (.var 1) .nil)))) .nil) .nil) (.cons (.iff (.bool false (.cons (.cmp .eq (.var 2) (.cst (.str []))) (.cons (.cmp .eq (.var 2) (.cst (.str [79, 80]))) .nil))) (.cons (.raise 1 (.cons (.cst (.str [97, 110, 32, 111, 112, 101, 114, 97, 110, 100, 32, 105, 115, 32, 109, 105, 115, 115, 105, 110, 103])) .nil)) .nil) .nil) (.cons (.ret (.tup (.cons (.call 32 (.cons (.var 2) (.cons (.idx (.idx (.var 0) (.var 1)) (.cst (.int 1))) (.cons (.cst (.int 1)) .nil)))) (.cons (.bin .add (.var 1) (.cst (.int 1))) .nil)))) .nil))))⟩
def c32 : FD := ⟨3, 3, .cons (.iff (.cmp .eq (.var 0) (.cst (.str [73, 78, 84]))) (.cons (.ret (.tup (.cons (.cst (.str [105, 110, 116])) (.cons (.bin .mul (.var 2) (.var 1)) .nil)))) .nil) .nil) (.cons (.iff (.cmp .eq (.var 0) (.cst (.str [82, 69, 65, 76]))) (.cons (.ret (.tup (.cons (.cst (.str [114, 101, 97, 108])) (.cons (.bin .mul (.var 2) (.idx (.var 1) (.cst (.int 0)))) (.cons (.idx (.var 1) (.cst (.int 1))) .nil))))) .nil) .nil) (.cons (.iff (.cmp .eq (.var 0) (.cst (.str [68, 66, 76, 69]))) (.cons (.ret (.tup (.cons (.cst (.str [100, 98, 108, 101])) (.cons (.bin .mul (.var 2) (.idx (.var 1) (.cst (.int 0)))) (.cons (.idx (.var 1) (.cst (.int 1))) .nil))))) .nil) .nil) (.cons (.iff (.cmp .eq (.var 0) (.cst (.str [76, 79, 71]))) (.cons (.ret (.tup (.cons (.cst (.str [108, 111, 103])) (.cons (.var 1) .nil)))) .nil) .nil) (.cons (.ret (.tup (.cons (.cst (.str [99, 104, 97, 114])) (.cons (.var 1) .nil)))) .nil))))⟩
def c33 : FD := ⟨2, 7, .cons (.iff (.call 35 (.cons (.var 0) (.cons (.var 1) .nil))) (.cons (.asgT [2, 3] (.call 36 (.cons (.var 0) (.cons (.bin .add (.var 1) (.cst (.int 1))) .nil)))) (.cons (.asgT [4, 5] (.call 36 (.cons (.var 0) (.cons (.bin .add (.var 3) (.cst (.int 1))) .nil)))) (.cons (.ret (.tup (.cons (.tup (.cons (.cst (.str [99, 112, 108, 120])) (.cons (.var 2) (.cons (.var 4) .nil)))) (.cons (.call 23 (.cons (.var 0) (.cons (.var 5) (.cons (.cst (.str [41])) .nil)))) .nil)))) .nil))) .nil) (.cons (.asgT [6, 1] (.call 28 (.cons (.var 0) (.cons (.bin .add (.var 1) (.cst (.int 1))) .nil)))) (.cons (.ret (.tup (.cons (.var 6) (.cons (.call 23 (.cons (.var 0) (.cons (.var 1) (.cons (.cst (.str [41])) .nil)))) .nil)))) .nil))⟩
def c34 : FD := ⟨2, 2, .cons (.iff (.bool false (.cons (.call 22 (.cons (.var 0) (.cons (.var 1) (.cons (.cst (.str [43])) .nil)))) (.cons (.call 22 (.cons (.var 0) (.cons (.var 1) (.cons (.cst (.str [45])) .nil)))) .nil))) (.cons (.aug 1 .add (.cst (.int 1))) .nil) .nil) (.cons (.iff (.bool false (.cons (.cmp .eq (.call 21 (.cons (.var 0) (.cons (.var 1) .nil))) (.cst (.str [73, 78, 84]))) (.cons (.cmp .eq (.call 21 (.cons (.var 0) (.cons (.var 1) .nil))) (.cst (.str [82, 69, 65, 76]))) .nil))) (.cons (.ret (.bin .add (.var 1) (.cst (.int 1)))) .nil) .nil) (.cons (.ret (.neg (.cst (.int 1)))) .nil))⟩
def c35 : FD := ⟨2, 4, .cons (.asg 2 (.call 34 (.cons (.var 0) (.cons (.bin .add (.var 1) (.cst (.int 1))) .nil)))) (.cons (.iff (.bool false (.cons (.cmp .lt (.var 2) (.cst (.int 0))) (.cons (.not (.call 22 (.cons (.var 0) (.cons (.var 2) (.cons (.cst (.str [44])) .nil))))) .nil))) (.cons (.ret (.cst (.bool false))) .nil) .nil) (.cons (.asg 3 (.call 34 (.cons (.var 0) (.cons (.bin .add (.var 2) (.cst (.int 1))) .nil)))) (.cons (.ret (.bool true (.cons (.cmp .ge (.var 3) (.cst (.int 0))) (.cons (.call 22 (.cons (.var 0) (.cons (.var 3) (.cons (.cst (.str [41])) .nil)))) .nil)))) .nil)))⟩
def c36 : FD := ⟨2, 3, .cons (.asg 2 (.cst (.int 1))) (.cons (.iff (.call 22 (.cons (.var 0) (.cons (.var 1) (.cons (.cst (.str [45])) .nil)))) (.cons (.asg 2 (.neg (.cst (.int 1)))) .nil) .nil) (.cons (.iff (.cmp .eq (.call 21 (.cons (.var 0) (.cons (.var 1) .nil))) (.cst (.str [79, 80]))) (.cons (.aug 1 .add (.cst (.int 1))) .nil) .nil) (.cons (.ret (.tup (.cons (.call 32 (.cons (.idx (.idx (.var 0) (.var 1)) (.cst (.int 0))) (.cons (.idx (.idx (.var 0) (.var 1)) (.cst (.int 1))) (.cons (.var 2) .nil)))) (.cons (.bin .add (.var 1) (.cst (.int 1))) .nil)))) .nil)))⟩
def c37 : FD := ⟨2, 5, .cons (.asgT [2, 1] (.call 24 (.cons (.var 0) (.cons (.var 1) .nil)))) (.cons (.asg 3 (.tup (.cons (.cst (.str [110, 97, 109, 101])) (.cons (.var 2) .nil)))) (.cons (.iff (.not (.call 22 (.cons (.var 0) (.cons (.var 1) (.cons (.cst (.str [40])) .nil))))) (.cons (.ret (.tup (.cons (.var 3) (.cons (.var 1) .nil)))) .nil) .nil) (.cons (.iff (.not (.call 38 (.cons (.var 0) (.cons (.var 1) .nil)))) (.cons (.asgT [4, 1] (.call 40 (.cons (.var 0) (.cons (.var 1) (.cons (.cst (.bool false)) .nil))))) (.cons (.asg 3 (.tup (.cons (.cst (.str [114, 101, 102])) (.cons (.var 2) (.cons (.var 4) .nil))))) .nil)) .nil) (.cons (.iff (.call 22 (.cons (.var 0) (.cons (.var 1) (.cons (.cst (.str [40])) .nil)))) (.cons (.ret (.call 39 (.cons (.var 0) (.cons (.var 1) (.cons (.var 3) .nil))))) .nil) .nil) (.cons (.ret (.tup (.cons (.var 3) (.cons (.var 1) .nil)))) .nil)))))⟩
def c38 : FD := ⟨2, 5, .cons (.asg 2 (.call 26 (.cons (.var 0) (.cons (.var 1) .nil)))) (.cons (.asg 3 (.cst (.int 0))) (.cons (.forr 4 (.bin .add (.var 1) (.cst (.int 1))) (.var 2) (.cons (.iff (.call 22 (.cons (.var 0) (.cons (.var 4) (.cons (.cst (.str [40])) .nil)))) (.cons (.aug 3 .add (.cst (.int 1))) .nil) (.cons (.iff (.call 22 (.cons (.var 0) (.cons (.var 4) (.cons (.cst (.str [41])) .nil)))) (.cons (.aug 3 .sub (.cst (.int 1))) .nil) (.cons (.iff (.bool true (.cons (.cmp .eq (.var 3) (.cst (.int 0))) (.cons (.call 22 (.cons (.var 0) (.cons (.var 4) (.cons (.cst (.str [58])) .nil)))) .nil))) (.cons (.ret (.cst (.bool true))) .nil) .nil) .nil)) .nil)) .nil)) (.cons (.ret (.cst (.bool false))) .nil)))⟩
def c39 : FD := ⟨3, 5, .cons (.asg 1 (.call 23 (.cons (.var 0) (.cons (.var 1) (.cons (.cst (.str [40])) .nil))))) (.cons (.asg 3 (.cst .none)) (.cons (.asg 4 (.cst .none)) (.cons (.iff (.not (.call 22 (.cons (.var 0) (.cons (.var 1) (.cons (.cst (.str [58])) .nil))))) (.cons (.asgT [3, 1] (.call 28 (.cons (.var 0) (.cons (.var 1) .nil)))) .nil) .nil) (.cons (.asg 1 (.call 23 (.cons (.var 0) (.cons (.var 1) (.cons (.cst (.str [58])) .nil))))) (.cons (.iff (.not (.call 22 (.cons (.var 0) (.cons (.var 1) (.cons (.cst (.str [41])) .nil))))) (.cons (.asgT [4, 1] (.call 28 (.cons (.var 0) (.cons (.var 1) .nil)))) .nil) .nil) (.cons (.ret (.tup (.cons (.tup (.cons (.cst (.str [115, 117, 98])) (.cons (.var 2) (.cons (.var 3) (.cons (.var 4) .nil))))) (.cons (.call 23 (.cons (.var 0) (.cons (.var 1) (.cons (.cst (.str [41])) .nil)))) .nil)))) .nil))))))⟩
def c40 : FD := ⟨3, 6, .cons (.asg 1 (.call 23 (.cons (.var 0) (.cons (.var 1) (.cons (.cst (.str [40])) .nil))))) (.cons (.asg 3 (.lst .nil)) (.cons (.iff (.call 22 (.cons (.var 0) (.cons (.var 1) (.cons (.cst (.str [41])) .nil)))) (.cons (.ret (.tup (.cons (.var 3) (.cons (.bin .add (.var 1) (.cst (.int 1))) .nil)))) .nil) .nil) (.cons (.whl (.cst (.bool true)) (.cons (.iff (.bool true (.cons (.var 2) (.cons (.call 22 (.cons (.var 0) (.cons (.var 1) (.cons (.cst (.str [42])) .nil)))) .nil))) (.cons (.asgT [4, 1] (.call 25 (.cons (.var 0) (.cons (.bin .add (.var 1) (.cst (.int 1))) .nil)))) (.cons (.exp (.me .append (.var 3) (.cons (.tup (.cons (.cst (.str [97, 108, 116])) (.cons (.var 4) .nil))) .nil))) .nil)) (.cons (.asgT [5, 1] (.call 28 (.cons (.var 0) (.cons (.var 1) .nil)))) (.cons (.exp (.me .append (.var 3) (.cons (.var 5) .nil))) .nil))) (.cons (.iff (.not (.call 22 (.cons (.var 0) (.cons (.var 1) (.cons (.cst (.str [44])) .nil))))) (.cons (.ret (.tup (.cons (.var 3) (.cons (.call 23 (.cons (.var 0) (.cons (.var 1) (.cons (.cst (.str [41])) .nil)))) .nil)))) .nil) .nil) (.cons (.aug 1 .add (.cst (.int 1))) .nil)))) .nil)))⟩
def c41 : FD := ⟨1, 3, .cons (.asgT [1, 2] (.call 28 (.cons (.var 0) (.cons (.cst (.int 0)) .nil)))) (.cons (.iff (.cmp .lt (.var 2) (.bi .len (.cons (.var 0) .nil))) (.cons (.raise 1 (.cons (.cst (.str [115, 111, 109, 101, 116, 104, 105, 110, 103, 32, 98, 101, 104, 105, 110, 100, 32, 97, 110, 32, 101, 120, 112, 114, 101, 115, 115, 105, 111, 110])) .nil)) .nil) .nil) (.cons (.ret (.var 1)) .nil))⟩
def c42 : FD := ⟨0, 0, .cons (.ret (.lst (.cons (.cst (.str [43])) (.cons (.cst (.str [45])) (.cons (.cst (.str [42])) (.cons (.cst (.str [47])) (.cons (.cst (.str [42, 42])) (.cons (.cst (.str [47, 47])) (.cons (.cst (.str [46, 69, 81, 46])) (.cons (.cst (.str [46, 76, 84, 46])) (.cons (.cst (.str [46, 65, 78, 68, 46])) (.cons (.cst (.str [46, 79, 82, 46])) (.cons (.cst (.str [46, 69, 81, 86, 46])) (.cons (.cst (.str [46, 78, 69, 81, 86, 46])) (.cons (.cst (.str [46, 71, 69, 46])) (.cons (.cst (.str [42, 42])) (.cons (.cst (.str [45])) (.cons (.cst (.str [42])) .nil)))))))))))))))))) .nil⟩
def c43 : FD := ⟨0, 0, .cons (.ret (.lst (.cons (.cst (.str [65])) (.cons (.cst (.str [88, 49])) (.cons (.cst (.str [90, 69, 66, 82, 65, 57])) (.cons (.cst (.str [69, 53])) (.cons (.cst (.str [68, 50])) (.cons (.cst (.str [69, 81])) .nil)))))))) .nil⟩
def c44 : FD := ⟨0, 0, .cons (.ret (.lst (.cons (.cst (.str [])) (.cons (.cst (.str [65])) (.cons (.cst (.str [73, 84, 39, 83])) (.cons (.cst (.str [39, 39])) (.cons (.cst (.str [32, 88, 32])) (.cons (.cst (.str [40])) (.cons (.cst (.str [46, 69, 81, 46])) (.cons (.cst (.str [61, 44])) .nil)))))))))) .nil⟩
def c45 : FD := ⟨2, 3, .cons (.asg 2 (.idx (.var 0) (.cst (.int 1)))) (.cons (.put (.var 0) (.cst (.int 1)) (.bin .add (.var 2) (.cst (.int 1)))) (.cons (.iff (.cmp .lt (.var 2) (.bi .len (.cons (.idx (.var 0) (.cst (.int 0))) .nil))) (.cons (.ret (.bin .mod (.idx (.idx (.var 0) (.cst (.int 0))) (.var 2)) (.var 1))) .nil) .nil) (.cons (.ret (.bin .mod (.bin .add (.bin .add (.bin .mul (.var 2) (.var 2)) (.bin .mul (.cst (.int 5)) (.var 2))) (.cst (.int 9))) (.var 1))) .nil)))⟩
def c46 : FD := ⟨1, 3, .cons (.asg 1 (.call 45 (.cons (.var 0) (.cons (.cst (.int 5000)) .nil)))) (.cons (.asg 2 (.bin .sub (.call 45 (.cons (.var 0) (.cons (.cst (.int 41)) .nil))) (.cst (.int 20)))) (.cons (.iff (.cmp .eq (.var 1) (.cst (.int 0))) (.cons (.ret (.tup (.cons (.cst (.int 0)) (.cons (.cst (.int 0)) .nil)))) .nil) .nil) (.cons (.whl (.cmp .eq (.bin .mod (.var 1) (.cst (.int 10))) (.cst (.int 0))) (.cons (.asg 1 (.bin .div (.var 1) (.cst (.int 10)))) (.cons (.asg 2 (.bin .add (.var 2) (.cst (.int 1)))) .nil))) (.cons (.ret (.tup (.cons (.var 1) (.cons (.var 2) .nil)))) .nil))))⟩
def c47 : FD := ⟨1, 4, .cons (.asg 1 (.bin .sub (.cst (.int 1)) (.bin .mul (.cst (.int 2)) (.call 45 (.cons (.var 0) (.cons (.cst (.int 2)) .nil)))))) (.cons (.iff (.cmp .eq (.call 45 (.cons (.var 0) (.cons (.cst (.int 2)) .nil))) (.cst (.int 0))) (.cons (.ret (.tup (.cons (.cst (.str [105, 110, 116])) (.cons (.bin .mul (.var 1) (.call 45 (.cons (.var 0) (.cons (.cst (.int 30)) .nil)))) .nil)))) .nil) .nil) (.cons (.asgT [2, 3] (.call 46 (.cons (.var 0) .nil))) (.cons (.ret (.tup (.cons (.cst (.str [114, 101, 97, 108])) (.cons (.bin .mul (.var 1) (.var 2)) (.cons (.var 3) .nil))))) .nil)))⟩
def c48 : FD := ⟨2, 5, .cons (.iff (.cmp .eq (.var 1) (.cst (.int 1))) (.cons (.ret (.tup (.cons (.cst (.str [105, 110, 116])) (.cons (.call 45 (.cons (.var 0) (.cons (.bin .pow (.cst (.int 10)) (.cst (.int 12))) .nil))) .nil)))) .nil) .nil) (.cons (.iff (.bool false (.cons (.cmp .eq (.var 1) (.cst (.int 2))) (.cons (.cmp .eq (.var 1) (.cst (.int 3))) .nil))) (.cons (.asgT [2, 3] (.call 46 (.cons (.var 0) .nil))) (.cons (.ret (.tup (.cons (.idx (.lst (.cons (.cst (.str [114, 101, 97, 108])) (.cons (.cst (.str [100, 98, 108, 101])) .nil))) (.bin .sub (.var 1) (.cst (.int 2)))) (.cons (.var 2) (.cons (.var 3) .nil))))) .nil)) .nil) (.cons (.iff (.cmp .eq (.var 1) (.cst (.int 4))) (.cons (.ret (.tup (.cons (.cst (.str [108, 111, 103])) (.cons (.cmp .eq (.call 45 (.cons (.var 0) (.cons (.cst (.int 2)) .nil))) (.cst (.int 1))) .nil)))) .nil) .nil) (.cons (.iff (.cmp .eq (.var 1) (.cst (.int 5))) (.cons (.ret (.tup (.cons (.cst (.str [99, 104, 97, 114])) (.cons (.idx (.call 44 .nil) (.call 45 (.cons (.var 0) (.cons (.cst (.int 8)) .nil)))) .nil)))) .nil) .nil) (.cons (.iff (.cmp .eq (.var 1) (.cst (.int 6))) (.cons (.asg 4 (.call 47 (.cons (.var 0) .nil))) (.cons (.ret (.tup (.cons (.cst (.str [99, 112, 108, 120])) (.cons (.var 4) (.cons (.call 47 (.cons (.var 0) .nil)) .nil))))) .nil)) .nil) (.cons (.ret (.tup (.cons (.cst (.str [110, 97, 109, 101])) (.cons (.idx (.call 43 .nil) (.call 45 (.cons (.var 0) (.cons (.cst (.int 6)) .nil)))) .nil)))) .nil)))))⟩
def c49 : FD := ⟨2, 2, .cons (.iff (.cmp .eq (.call 45 (.cons (.var 0) (.cons (.cst (.int 2)) .nil))) (.cst (.int 0))) (.cons (.ret (.cst .none)) .nil) .nil) (.cons (.ret (.call 51 (.cons (.var 0) (.cons (.var 1) .nil)))) .nil)⟩
def c51 : FD := ⟨2, 8, .cons (.asg 2 (.call 45 (.cons (.var 0) (.cons (.ite (.cmp .gt (.var 1) (.cst (.int 0))) (.cst (.int 16)) (.cst (.int 8))) .nil)))) (.cons (.iff (.cmp .lt (.var 2) (.cst (.int 8))) (.cons (.ret (.call 48 (.cons (.var 0) (.cons (.var 2) .nil)))) .nil) .nil) (.cons (.iff (.cmp .eq (.var 2) (.cst (.int 12))) (.cons (.asg 3 (.idx (.lst (.cons (.cst (.str [45])) (.cons (.cst (.str [43])) (.cons (.cst (.str [46, 78, 79, 84, 46])) .nil)))) (.call 45 (.cons (.var 0) (.cons (.cst (.int 3)) .nil))))) (.cons (.ret (.tup (.cons (.cst (.str [117, 110])) (.cons (.var 3) (.cons (.call 51 (.cons (.var 0) (.cons (.bin .sub (.var 1) (.cst (.int 1))) .nil))) .nil))))) .nil)) .nil) (.cons (.iff (.cmp .eq (.var 2) (.cst (.int 13))) (.cons (.ret (.call 50 (.cons (.var 0) (.cons (.bin .sub (.var 1) (.cst (.int 1))) .nil)))) .nil) .nil) (.cons (.iff (.cmp .eq (.var 2) (.cst (.int 14))) (.cons (.asg 4 (.tup (.cons (.cst (.str [110, 97, 109, 101])) (.cons (.idx (.call 43 .nil) (.call 45 (.cons (.var 0) (.cons (.cst (.int 6)) .nil)))) .nil)))) (.cons (.iff (.cmp .eq (.call 45 (.cons (.var 0) (.cons (.cst (.int 2)) .nil))) (.cst (.int 1))) (.cons (.asg 4 (.call 50 (.cons (.var 0) (.cons (.cst (.int 0)) .nil)))) .nil) .nil) (.cons (.asg 5 (.call 49 (.cons (.var 0) (.cons (.bin .sub (.var 1) (.cst (.int 1))) .nil)))) (.cons (.ret (.tup (.cons (.cst (.str [115, 117, 98])) (.cons (.var 4) (.cons (.var 5) (.cons (.call 49 (.cons (.var 0) (.cons (.bin .sub (.var 1) (.cst (.int 1))) .nil))) .nil)))))) .nil)))) .nil) (.cons (.asg 6 (.idx (.call 42 .nil) (.call 45 (.cons (.var 0) (.cons (.cst (.int 16)) .nil))))) (.cons (.asg 7 (.call 51 (.cons (.var 0) (.cons (.bin .sub (.var 1) (.cst (.int 1))) .nil)))) (.cons (.ret (.tup (.cons (.cst (.str [98, 105, 110])) (.cons (.var 6) (.cons (.var 7) (.cons (.call 51 (.cons (.var 0) (.cons (.bin .sub (.var 1) (.cst (.int 1))) .nil))) .nil)))))) .nil)))))))⟩
def c52 : FD := ⟨1, 7, .cons (.asg 1 (.lst .nil)) (.cons (.asg 2 (.lst .nil)) (.cons (.asg 3 (.cst (.bool false))) (.cons (.forr 4 (.cst (.int 0)) (.bi .len (.cons (.var 0) .nil)) (.cons (.iff (.cmp .eq (.idx (.var 0) (.var 4)) (.cst (.str [39]))) (.cons (.asg 3 (.not (.var 3))) .nil) (.cons (.iff (.var 3) (.cons .cont .nil) (.cons (.iff (.cmp .eq (.idx (.var 0) (.var 4)) (.cst (.str [40]))) (.cons (.exp (.me .append (.var 2) (.cons (.lst (.cons (.var 4) (.cons (.bool false (.cons (.cmp .eq (.var 4) (.cst (.int 0))) (.cons (.not (.bool false (.cons (.me .isalnum (.idx (.var 0) (.bin .sub (.var 4) (.cst (.int 1)))) .nil) (.cons (.cmp .eq (.idx (.var 0) (.bin .sub (.var 4) (.cst (.int 1)))) (.cst (.str [41]))) .nil)))) .nil))) .nil))) .nil))) .nil) (.cons (.iff (.bool true (.cons (.cmp .eq (.idx (.var 0) (.var 4)) (.cst (.str [44]))) (.cons (.var 2) .nil))) (.cons (.put (.idx (.var 2) (.neg (.cst (.int 1)))) (.cst (.int 1)) (.cst (.bool false))) .nil) (.cons (.iff (.cmp .eq (.idx (.var 0) (.var 4)) (.cst (.str [41]))) (.cons (.asgT [5, 6] (.me .pop (.var 2) .nil)) (.cons (.iff (.var 6) (.cons (.exp (.me .append (.var 1) (.cons (.tup (.cons (.var 5) (.cons (.var 4) .nil))) .nil))) .nil) .nil) .nil)) .nil) .nil)) .nil)) .nil)) .nil)) .nil)) (.cons (.ret (.var 1)) .nil))))⟩
def fds : List (Option FD) := [some c0, some c1, some c2, some c3, some c4, some c5, some c6, some c7, some c8, some c9, some c10, some c11, none, some c13, some c14, none, some c16, some c17, some c18, some c19, some c20, some c21, some c22, some c23, some c24, some c25, some c26, some c27, some c28, some c29, some c30, some c31, some c32, some c33, some c34, some c35, some c36, some c37, some c38, some c39, some c40, some c41, some c42, some c43, some c44, some c45, some c46, some c47, some c48, some c49, none, some c51, some c52, none, none]
theorem fds_ok : ps.map compD = fds := by kernel_rfl
def fdOf (k : Nat) : Option FD := (fds[k]?).join
theorem names_ok : dnames = (["run_of", "dotted_at", "told_pair", "power_at", "number_at", "quoted_at", "name_at", "point_at", "token_at", "tokens_of", "zeros", "show_pair", "show_text", "binding", "within", "list_row", "list_number", "list_constant", "list_part", "list_loop", "list_expr", "kind_at", "is_op", "need_op", "need_name", "need_int", "close_at", "priority_at", "parse_expr", "parse_binary", "parse_first", "parse_primary", "constant_of", "parse_bracket", "part_end", "is_complex", "complex_part", "parse_named", "is_cut", "parse_cut", "parse_arguments", "whole_expr", "_law_ops", "_law_names", "_law_texts", "_law_take", "_law_pair", "_law_part", "_law_leaf", "_law_end", "_law_ref", "_law_tree", "_law_pairs", "_law_read", "law"] : List String).map Str.ofString := by kernel_rfl
/-- a call of the small language, to a depth -/
def showP (args : List PV) (σ : Store) : Out (PV × Store) := match args with
  | [a] => (showX [some a] σ).bind fun q => leaveP σ.length q.1 q.2.2
  | _ => .stuck
def rowP (C : Nat → List PV → Store → Out (PV × Store)) (args : List PV) (σ : Store) : Out (PV × Store) := match args with
  | [a] => (rowX C 20 [some a] σ).bind fun q => leaveP σ.length q.1 q.2.2
  | _ => .stuck
def callP (N : Nat) : Nat → Nat → List PV → Store → Out (PV × Store)
  | 0, _, _, _ => .stuck
  | d + 1, k, args, σ => if k = 12 then showP args σ else if k = 15 then rowP (callP N d) args σ else if k = 50 then refP (callP N d) 43 45 51 args σ else match fdOf k with
    | some f => runFD (callP N d) N f args σ
    | none => .stuck
def ShowK (K : Frag) (f : Addr) : Prop := ∃ qual scope cdv k1 k2 k3 k4 p1 p2 p3 p4 p5 p6 p7 p8 p9 p10, DefK K f qual ["signs"] [.Return (some (.BinOp (.BinOp (.Constant (.str "'") k1 p1) .Add (.Call (.Attribute (.Name "signs" p2) "replace" p3) [.Constant (.str "'") k2 p4, .Constant (.str "''") k3 p5] [] p6) p7) .Add (.Constant (.str "'") k4 p8) p9)) p10] scope cdv ∧
  (p3.endLine == p6.line) = true ∧ (nmOf scope).take 1 = [("signs" : Str)] ∧ (nmOf scope).Nodup
def RowK (K : Frag) (f : Addr) : Prop := ∃ qual scope cdv k1 p1 p2 p3 p4 q1 q2 q3 q4 q5 q6 cscope, DefK K f qual ["trees"] [.Return (some (.Call (.Attribute (.Constant (.str ",") k1 p1) "join" p2) [.ListComp (.Call (.Name "list_expr" q1) [.Name "tree" q2] [] q3) [⟨.Name "tree" q4, .Name "trees" q5, [], 0⟩] cscope q6] [] p3)) p4] scope cdv ∧
  (p2.endLine == p3.line) = true ∧ (nmOf scope).take 1 = [("trees" : Str)] ∧ (nmOf scope).Nodup ∧ cscope.names = [((".0" : Str), .local), ("tree", .local), ("list_expr", .globalImplicit)] ∧ cscope.kind = .function
/-- all the defs, as the written part holds them -/
structure DefsK (Γ : GC) : Prop where
  plain : ∀ k f, fdOf k = some f → DefC Γ k f
  shw : ShowK Γ.KF (Γ.fa 12)
  row : RowK Γ.KF (Γ.fa 15)
  ref : RefK Γ.KF (Γ.fa 50)
theorem call_sound {Γ : GC} (gok : Γ.Ok) (ek : ExcK Γ) (D : DefsK Γ) (N : Nat) : ∀ (d : Nat) (c : FC), c.Ok Γ → c.dp + d + 11 < recursionLimit → c.un + 3 * d + 101 < cLine → CallOk Γ c (callP N d) := by
  intro d
  induction d with
  | zero => intro c cok h1 h2 f args env σ h tk news ls vs Q I ra hp; exact hp.elim
  | succ d ih =>
    intro c cok h1 h2 k args env σ h tk news ls vs Q I ra hp
    have ih' : ∀ c' : FC, c'.Ok Γ → c'.dp = c.dp + 1 → c'.un = c.un + 3 → CallOk Γ c' (callP N d) := fun c' ok' e1 e2 => ih c' ok' (by omega) (by omega)
    unfold callP at hp
    split at hp
    · rename_i hk
      subst hk
      obtain ⟨qual, scope, cdv, k1, k2, k3, k4, p1, p2, p3, p4, p5, p6, p7, p8, p9, p10, DK, hline, hnm, hnd⟩ := D.shw
      match args, ra with
      | [a], ra =>
        refine call_defG gok cok (X := showX) (nl := 0) DK hnm hnd (by omega) (by omega) (fun c' cok' _ _ hcs hcn _ _ => ?_) rfl I ra hp
        refine sx_show cok' hline ?_ (by rw [hcs]; exact DK.loc _ (.head _))
        rw [hcn]
        have := congrArg (fun (l : List Str) => l[0]?) hnm
        simpa using this
      | [], _ => exact hp.elim
      | _ :: _ :: _, _ => exact hp.elim
    · split at hp
      · rename_i hk
        subst hk
        obtain ⟨qual, scope, cdv, k1, p1, p2, p3, p4, q1, q2, q3, q4, q5, q6, cscope, DK, hline, hnm, hnd, hcn, hck⟩ := D.row
        match args, ra with
        | [a], ra =>
          refine call_defG gok cok (X := rowX (callP N d) 20) (nl := 0) DK hnm hnd (by omega) (by omega) (fun c' cok' e1 e2 hcs hcn' _ _ => ?_) rfl I ra hp
          refine sx_row gok cok' (ih' c'.still (FC.still_ok cok') e1 e2) (by rw [names_ok]; decide +kernel) hline ?_ (by rw [hcs]; exact DK.loc _ (.head _)) hcn hck
          rw [hcn']
          have := congrArg (fun (l : List Str) => l[0]?) hnm
          simpa using this
        | [], _ => exact hp.elim
        | _ :: _ :: _, _ => exact hp.elim
      · split at hp
        · rename_i hk
          subst hk
          exact call_ref gok cok (by rw [names_ok]; decide +kernel) (by rw [names_ok]; decide +kernel) (by rw [names_ok]; decide +kernel) D.ref (by omega) (by omega) ih' I ra hp
        · split at hp
          · rename_i f hf
            exact call_def gok ek cok (D.plain k f hf) (by omega) (by omega) ih' I ra hp
          · exact hp.elim
end Mine
namespace Mine
open PySem PySem.W PySem.Calls PyProof.Rows
noncomputable abbrev KF (p : Params) : Frag := Mine.hd.heap_39 p
def taF : Nat → Option Addr
  | 0 => some 159
  | 1 => some 176
  | 2 => some 276
  | _ => none
mutual
def repK (K : Frag) (ta : Nat → Option Addr) : Nat → Value → PV → Bool
  | 0, _, _ => false
  | f + 1, v, d => match v, d with
    | .none, .none => true
    | .bool a, .bool b => a == b
    | .int i _, .int j => decide (i = j)
    | .str x _, .str s => decide (x.cps.toList = s) && s.all fun c => decide (c < 128)
    | .ref a, .tup ds => (match K.lookup a with
      | some ⟨.type n, none, .seq items _, sl⟩ => n == "tuple" && sl.isEmpty && repsK K ta f items.toList ds
      | _ => false)
    | .ref a, .tab k => (match ta k with
      | some b => a == b
      | none => false)
    | _, _ => false
def repsK (K : Frag) (ta : Nat → Option Addr) : Nat → List Value → List PV → Bool
  | 0, _, _ => false
  | _ + 1, [], [] => true
  | f + 1, v :: vs, d :: ds => repK K ta f v d && repsK K ta f vs ds
  | _ + 1, _, _ => false
end
theorem rep_ok {K : Frag} {ta : Nat → Option Addr} {base : Heap} (X : K.In base) : ∀ n, (∀ v d, repK K ta n v d = true → RepV base ta [] [] v d) ∧ (∀ vs ds, repsK K ta n vs ds = true → RepA base ta [] [] vs ds) := by
  intro n
  induction n with
  | zero => exact ⟨fun v d h => by simp [repK] at h, fun vs ds h => by simp [repsK] at h⟩
  | succ n ih =>
    refine ⟨fun v d h => ?_, fun vs ds h => ?_⟩
    · unfold repK at h
      split at h
      · exact .none
      · rw [beq_iff_eq.mp h]; exact .bool _
      · rw [of_decide_eq_true h]; exact .int _ _
      · simp only [Bool.and_eq_true, decide_eq_true_eq, List.all_eq_true] at h
        exact .str _ _ h.1 h.2
      · split at h
        · rename_i q
          simp only [Bool.and_eq_true, beq_iff_eq] at h
          obtain ⟨⟨h1, h2⟩, h3⟩ := h
          subst h1
          have h2' := Array.isEmpty_iff.mp h2
          rw [h2'] at q
          exact .tup (.inr (X _ _ q)) (ih.2 _ _ h3)
        · cases h
      · split at h
        · rename_i q
          rw [beq_iff_eq.mp h]
          exact .tab q
        · cases h
      · cases h
    · cases vs with
      | nil =>
        cases ds with
        | nil => exact .nil
        | cons _ _ => simp [repsK] at h
      | cons v vs =>
        cases ds with
        | nil => simp [repsK] at h
        | cons d ds =>
          simp only [repsK, Bool.and_eq_true] at h
          exact .cons (ih.1 _ _ h.1) (ih.2 _ _ h.2)
def constsB (K : Frag) : Bool := consts.all fun x => match nsIn K mainGlobals x.1 with
  | some (some v) => repK K taF 40 v x.2
  | _ => false
theorem lookup_mem {β : Type} {x : Str} {v : β} : ∀ {l : List (Str × β)}, l.lookup x = some v → (x, v) ∈ l
  | [], h => by simp at h
  | (y, w) :: r, h => by
    rw [List.lookup_cons] at h
    split at h
    · rename_i q
      rw [beq_iff_eq.mp q]
      cases h; exact .head _
    · exact .tail _ (lookup_mem h)
/-- a table of the program: its dict's keys and values -/
def tabB (K : Frag) : Nat → List DictEntry → List (List Nat × PV) → Bool
  | _, [], [] => true
  | f, e :: es, (k, d) :: l => (match e.key with
      | .str x _ => decide (x.cps.toList = k)
      | _ => false) && repK K taF f e.val d && tabB K f es l
  | _, _, _ => false
theorem tab_find {K : Frag} {base : Heap} (X : K.In base) {f : Nat} : ∀ {es : List DictEntry} {l : List (List Nat × PV)}, tabB K f es l = true → ∀ s, (match l.lookup s with
      | some pv => ∃ e, es.find? (·.key.isStr ⟨s.toArray⟩) = some e ∧ RepV base taF [] [] e.val pv
      | none => es.find? (·.key.isStr ⟨s.toArray⟩) = none ∧ es.any (·.refKey) = false)
  | [], [], _, s => ⟨rfl, rfl⟩
  | e :: es, (k, d) :: l, h, s => by
    simp only [tabB, Bool.and_eq_true] at h
    obtain ⟨⟨h1, h2⟩, h3⟩ := h
    have ih := tab_find X h3 s
    cases hk : e.key with
    | str x t =>
      rw [hk] at h1
      have hx : x.cps.toList = k := of_decide_eq_true h1
      have hxx : x = ⟨k.toArray⟩ := by rw [← hx]
      have hrk : e.refKey = false := by unfold DictEntry.refKey; rw [hk]
      rw [List.lookup_cons]
      by_cases hs : s = k
      · subst hs
        rw [beq_self_eq_true]
        refine ⟨e, ?_, (rep_ok X f).1 _ _ h2⟩
        rw [List.find?_cons, hk, hxx]
        rw [show (Value.str (⟨s.toArray⟩ : Str) t).isStr ⟨s.toArray⟩ = true from by simp [Value.isStr]]
      · rw [show (s == k) = false from beq_eq_false_iff_ne.mpr hs]
        have hne : e.key.isStr (⟨s.toArray⟩ : Str) = false := by
          rw [hk, hxx]
          show ((⟨k.toArray⟩ : Str) == ⟨s.toArray⟩) = false
          rw [beq_eq_false_iff_ne]
          intro e
          have := congrArg (fun x : Str => x.cps.toList) e
          exact hs (by simpa using this.symm)
        dsimp only
        cases hl : l.lookup s with
        | none =>
          rw [hl] at ih
          refine ⟨?_, ?_⟩
          · rw [List.find?_cons, hne]; exact ih.1
          · rw [List.any_cons, hrk, ih.2]; rfl
        | some pv =>
          rw [hl] at ih
          obtain ⟨e', h1', h2'⟩ := ih
          exact ⟨e', by rw [List.find?_cons, hne]; exact h1', h2'⟩
    | _ => rw [hk] at h1; cases h1
  | [], _ :: _, h, _ => by simp [tabB] at h
  | _ :: _, [], h, _ => by simp [tabB] at h
set_option profiler true
theorem consts_ok (p : Params) : constsB (KF p) = true := by kernel_rfl
def addrs : List Addr := [74, 81, 88, 95, 102, 109, 116, 123, 130, 137, 144, 151, 158, 186, 193, 198, 205, 212, 219, 226, 233, 240, 247, 254, 261, 268, 275, 283, 290, 297, 304, 311, 318, 325, 332, 339, 346, 353, 360, 367, 374, 381, 388, 395, 402, 409, 416, 423, 430, 437, 442, 449, 456, 463, 470]
def faF (k : Nat) : Addr := addrs.getD k 74
theorem defs_ok (p : Params) : ((List.range 55).all fun k => match dnames[k]? with
  | some x => (match nsIn (KF p) mainGlobals x with | some (some (.ref a)) => a == faF k && keepIn (KF p) (.ref a) | _ => false)
  | none => false) = true := by kernel_rfl
theorem nobi_ok (p : Params) : ([("len" : Str), "int", "str", "abs", "max", "range", "Exception"].all fun x => match nsIn (KF p) mainGlobals x with | some none => true | _ => false) = true := by kernel_rfl
def caF : Nat → Addr
  | 0 => 51
  | _ => 63
theorem lex_ns (p : Params) : nsIn (KF p) mainGlobals "LexFault" = some (some (.ref 51)) := by kernel_rfl
theorem syn_ns (p : Params) : nsIn (KF p) mainGlobals "SyntaxFault" = some (some (.ref 63)) := by kernel_rfl
theorem f77_ns (p : Params) : nsIn (KF p) mainGlobals "F77Error" = some (some (.ref 31)) := by kernel_rfl
theorem one_ok (p : Params) : InitBy (KF p) 31 28 "F77Error" := {
  ns := f77_ns p
  ga := by kernel_rfl
  reads := by kernel_rfl
  find := by kernel_rfl
  hand := by kernel_rfl
  keep := by kernel_rfl
  one := by
    refine ⟨_, _, _, _, _, _, _, _, _, _, _, _, _, ⟨⟨_, _, _, _, _, _, _, _, _, _, _, rfl, fun vs h => ?_⟩, by kernel_rfl, rfl, rfl, rfl, by decide, by decide +kernel⟩, ⟨rfl, by kernel_rfl, by kernel_rfl⟩, by kernel_rfl, by kernel_rfl⟩
    rcases vs with _ | ⟨a, _ | ⟨b, _ | ⟨c, r⟩⟩⟩
    · cases h
    · cases h
    · rfl
    · cases h }
theorem two_ok (p : Params) : Init2 (KF p) 48 := by
  refine ⟨_, _, _, _, _, _, _, _, _, _, _, _, _, ⟨⟨_, _, _, _, _, _, _, _, _, _, _, rfl, fun vs h => ?_⟩, by kernel_rfl, rfl, rfl, rfl, by decide, by decide +kernel⟩, ⟨rfl, by kernel_rfl, by kernel_rfl⟩, by kernel_rfl, by kernel_rfl, by kernel_rfl⟩
  rcases vs with _ | ⟨a, _ | ⟨b, _ | ⟨c, _ | ⟨d, r⟩⟩⟩⟩
  · cases h
  · cases h
  · cases h
  · rfl
  · cases h
theorem cls_lex (p : Params) : ClsK (KF p) 51 (.ref 31 :: bmE) := ⟨⟨_, _, _, _, _, _, _, _, _, _, _, _, _, _, rfl⟩, HasE.base.own, PassE.base.own, by kernel_rfl, by kernel_rfl, by kernel_rfl⟩
theorem cls_f77 (p : Params) : ClsK (KF p) 31 bmE := ⟨⟨_, _, _, _, _, _, _, _, _, _, _, _, _, _, rfl⟩, HasE.base, PassE.base, by kernel_rfl, by kernel_rfl, by kernel_rfl⟩
theorem cls_syn (p : Params) : ClsK (KF p) 63 (.ref 31 :: bmE) := ⟨⟨_, _, _, _, _, _, _, _, _, _, _, _, _, _, rfl⟩, HasE.base.own, PassE.base.own, by kernel_rfl, by kernel_rfl, by kernel_rfl⟩
end Mine
namespace Mine
open PySem PySem.W PySem.Calls PyProof.Rows
def DefCK (K : Frag) (f : Addr) (d : FD) : Prop :=
  ∃ qual names body scope cdv n, DefK K f qual names body scope cdv ∧ cSL (cS (cxOf scope) n) body = some d.code ∧ d.npar = names.length ∧ (nmOf scope).take names.length = names ∧ (nmOf scope).Nodup
theorem def_0 (p : Params) : DefCK (KF p) (faF 0) c0 := by
  refine ⟨_, [("text" : Str), ("at" : Str), ("signs" : Str)], _, _, _, 40, ⟨⟨_, _, _, _, _, _, _, _, _, _, _, rfl, fun vs h => ?_⟩, by kernel_rfl, rfl, rfl, rfl, by decide, by decide +kernel⟩, by kernel_rfl, rfl, by kernel_rfl, by decide +kernel⟩
  · skip
    rcases vs with _ | ⟨a0, _ | ⟨a1, _ | ⟨a2, _ | ⟨a3, r⟩⟩⟩⟩
    · cases h
    · cases h
    · cases h
    · rfl
    · cases h
theorem def_1 (p : Params) : DefCK (KF p) (faF 1) c1 := by
  refine ⟨_, [("text" : Str), ("at" : Str)], _, _, _, 40, ⟨⟨_, _, _, _, _, _, _, _, _, _, _, rfl, fun vs h => ?_⟩, by kernel_rfl, rfl, rfl, rfl, by decide, by decide +kernel⟩, by kernel_rfl, rfl, by kernel_rfl, by decide +kernel⟩
  · skip
    rcases vs with _ | ⟨a0, _ | ⟨a1, _ | ⟨a2, r⟩⟩⟩
    · cases h
    · cases h
    · rfl
    · cases h
theorem def_2 (p : Params) : DefCK (KF p) (faF 2) c2 := by
  refine ⟨_, [("digits" : Str), ("power" : Str)], _, _, _, 40, ⟨⟨_, _, _, _, _, _, _, _, _, _, _, rfl, fun vs h => ?_⟩, by kernel_rfl, rfl, rfl, rfl, by decide, by decide +kernel⟩, by kernel_rfl, rfl, by kernel_rfl, by decide +kernel⟩
  · skip
    rcases vs with _ | ⟨a0, _ | ⟨a1, _ | ⟨a2, r⟩⟩⟩
    · cases h
    · cases h
    · rfl
    · cases h
theorem def_3 (p : Params) : DefCK (KF p) (faF 3) c3 := by
  refine ⟨_, [("text" : Str), ("at" : Str)], _, _, _, 40, ⟨⟨_, _, _, _, _, _, _, _, _, _, _, rfl, fun vs h => ?_⟩, by kernel_rfl, rfl, rfl, rfl, by decide, by decide +kernel⟩, by kernel_rfl, rfl, by kernel_rfl, by decide +kernel⟩
  · skip
    rcases vs with _ | ⟨a0, _ | ⟨a1, _ | ⟨a2, r⟩⟩⟩
    · cases h
    · cases h
    · rfl
    · cases h
theorem def_4 (p : Params) : DefCK (KF p) (faF 4) c4 := by
  refine ⟨_, [("text" : Str), ("at" : Str)], _, _, _, 40, ⟨⟨_, _, _, _, _, _, _, _, _, _, _, rfl, fun vs h => ?_⟩, by kernel_rfl, rfl, rfl, rfl, by decide, by decide +kernel⟩, by kernel_rfl, rfl, by kernel_rfl, by decide +kernel⟩
  · skip
    rcases vs with _ | ⟨a0, _ | ⟨a1, _ | ⟨a2, r⟩⟩⟩
    · cases h
    · cases h
    · rfl
    · cases h
theorem def_5 (p : Params) : DefCK (KF p) (faF 5) c5 := by
  refine ⟨_, [("text" : Str), ("at" : Str)], _, _, _, 40, ⟨⟨_, _, _, _, _, _, _, _, _, _, _, rfl, fun vs h => ?_⟩, by kernel_rfl, rfl, rfl, rfl, by decide, by decide +kernel⟩, by kernel_rfl, rfl, by kernel_rfl, by decide +kernel⟩
  · skip
    rcases vs with _ | ⟨a0, _ | ⟨a1, _ | ⟨a2, r⟩⟩⟩
    · cases h
    · cases h
    · rfl
    · cases h
theorem def_6 (p : Params) : DefCK (KF p) (faF 6) c6 := by
  refine ⟨_, [("text" : Str), ("at" : Str)], _, _, _, 40, ⟨⟨_, _, _, _, _, _, _, _, _, _, _, rfl, fun vs h => ?_⟩, by kernel_rfl, rfl, rfl, rfl, by decide, by decide +kernel⟩, by kernel_rfl, rfl, by kernel_rfl, by decide +kernel⟩
  · skip
    rcases vs with _ | ⟨a0, _ | ⟨a1, _ | ⟨a2, r⟩⟩⟩
    · cases h
    · cases h
    · rfl
    · cases h
theorem def_7 (p : Params) : DefCK (KF p) (faF 7) c7 := by
  refine ⟨_, [("text" : Str), ("at" : Str)], _, _, _, 40, ⟨⟨_, _, _, _, _, _, _, _, _, _, _, rfl, fun vs h => ?_⟩, by kernel_rfl, rfl, rfl, rfl, by decide, by decide +kernel⟩, by kernel_rfl, rfl, by kernel_rfl, by decide +kernel⟩
  · skip
    rcases vs with _ | ⟨a0, _ | ⟨a1, _ | ⟨a2, r⟩⟩⟩
    · cases h
    · cases h
    · rfl
    · cases h
theorem def_8 (p : Params) : DefCK (KF p) (faF 8) c8 := by
  refine ⟨_, [("text" : Str), ("at" : Str)], _, _, _, 40, ⟨⟨_, _, _, _, _, _, _, _, _, _, _, rfl, fun vs h => ?_⟩, by kernel_rfl, rfl, rfl, rfl, by decide, by decide +kernel⟩, by kernel_rfl, rfl, by kernel_rfl, by decide +kernel⟩
  · skip
    rcases vs with _ | ⟨a0, _ | ⟨a1, _ | ⟨a2, r⟩⟩⟩
    · cases h
    · cases h
    · rfl
    · cases h
theorem def_9 (p : Params) : DefCK (KF p) (faF 9) c9 := by
  refine ⟨_, [("squeezed" : Str)], _, _, _, 40, ⟨⟨_, _, _, _, _, _, _, _, _, _, _, rfl, fun vs h => ?_⟩, by kernel_rfl, rfl, rfl, rfl, by decide, by decide +kernel⟩, by kernel_rfl, rfl, by kernel_rfl, by decide +kernel⟩
  · skip
    rcases vs with _ | ⟨a0, _ | ⟨a1, r⟩⟩
    · cases h
    · rfl
    · cases h
theorem def_10 (p : Params) : DefCK (KF p) (faF 10) c10 := by
  refine ⟨_, [("count" : Str)], _, _, _, 40, ⟨⟨_, _, _, _, _, _, _, _, _, _, _, rfl, fun vs h => ?_⟩, by kernel_rfl, rfl, rfl, rfl, by decide, by decide +kernel⟩, by kernel_rfl, rfl, by kernel_rfl, by decide +kernel⟩
  · skip
    rcases vs with _ | ⟨a0, _ | ⟨a1, r⟩⟩
    · cases h
    · rfl
    · cases h
theorem def_11 (p : Params) : DefCK (KF p) (faF 11) c11 := by
  refine ⟨_, [("pair" : Str), ("letter" : Str)], _, _, _, 40, ⟨⟨_, _, _, _, _, _, _, _, _, _, _, rfl, fun vs h => ?_⟩, by kernel_rfl, rfl, rfl, rfl, by decide, by decide +kernel⟩, by kernel_rfl, rfl, by kernel_rfl, by decide +kernel⟩
  · skip
    rcases vs with _ | ⟨a0, _ | ⟨a1, _ | ⟨a2, r⟩⟩⟩
    · cases h
    · cases h
    · rfl
    · cases h
theorem def_13 (p : Params) : DefCK (KF p) (faF 13) c13 := by
  refine ⟨_, [("tree" : Str)], _, _, _, 40, ⟨⟨_, _, _, _, _, _, _, _, _, _, _, rfl, fun vs h => ?_⟩, by kernel_rfl, rfl, rfl, rfl, by decide, by decide +kernel⟩, by kernel_rfl, rfl, by kernel_rfl, by decide +kernel⟩
  · skip
    rcases vs with _ | ⟨a0, _ | ⟨a1, r⟩⟩
    · cases h
    · rfl
    · cases h
theorem def_14 (p : Params) : DefCK (KF p) (faF 14) c14 := by
  refine ⟨_, [("tree" : Str), ("least" : Str)], _, _, _, 40, ⟨⟨_, _, _, _, _, _, _, _, _, _, _, rfl, fun vs h => ?_⟩, by kernel_rfl, rfl, rfl, rfl, by decide, by decide +kernel⟩, by kernel_rfl, rfl, by kernel_rfl, by decide +kernel⟩
  · skip
    rcases vs with _ | ⟨a0, _ | ⟨a1, _ | ⟨a2, r⟩⟩⟩
    · cases h
    · cases h
    · rfl
    · cases h
theorem def_16 (p : Params) : DefCK (KF p) (faF 16) c16 := by
  refine ⟨_, [("tree" : Str)], _, _, _, 40, ⟨⟨_, _, _, _, _, _, _, _, _, _, _, rfl, fun vs h => ?_⟩, by kernel_rfl, rfl, rfl, rfl, by decide, by decide +kernel⟩, by kernel_rfl, rfl, by kernel_rfl, by decide +kernel⟩
  · skip
    rcases vs with _ | ⟨a0, _ | ⟨a1, r⟩⟩
    · cases h
    · rfl
    · cases h
theorem def_17 (p : Params) : DefCK (KF p) (faF 17) c17 := by
  refine ⟨_, [("tree" : Str)], _, _, _, 40, ⟨⟨_, _, _, _, _, _, _, _, _, _, _, rfl, fun vs h => ?_⟩, by kernel_rfl, rfl, rfl, rfl, by decide, by decide +kernel⟩, by kernel_rfl, rfl, by kernel_rfl, by decide +kernel⟩
  · skip
    rcases vs with _ | ⟨a0, _ | ⟨a1, r⟩⟩
    · cases h
    · rfl
    · cases h
theorem def_18 (p : Params) : DefCK (KF p) (faF 18) c18 := by
  refine ⟨_, [("tree" : Str)], _, _, _, 40, ⟨⟨_, _, _, _, _, _, _, _, _, _, _, rfl, fun vs h => ?_⟩, by kernel_rfl, rfl, rfl, rfl, by decide, by decide +kernel⟩, by kernel_rfl, rfl, by kernel_rfl, by decide +kernel⟩
  · skip
    rcases vs with _ | ⟨a0, _ | ⟨a1, r⟩⟩
    · cases h
    · rfl
    · cases h
theorem def_19 (p : Params) : DefCK (KF p) (faF 19) c19 := by
  refine ⟨_, [("tree" : Str)], _, _, _, 40, ⟨⟨_, _, _, _, _, _, _, _, _, _, _, rfl, fun vs h => ?_⟩, by kernel_rfl, rfl, rfl, rfl, by decide, by decide +kernel⟩, by kernel_rfl, rfl, by kernel_rfl, by decide +kernel⟩
  · skip
    rcases vs with _ | ⟨a0, _ | ⟨a1, r⟩⟩
    · cases h
    · rfl
    · cases h
theorem def_20 (p : Params) : DefCK (KF p) (faF 20) c20 := by
  refine ⟨_, [("tree" : Str)], _, _, _, 40, ⟨⟨_, _, _, _, _, _, _, _, _, _, _, rfl, fun vs h => ?_⟩, by kernel_rfl, rfl, rfl, rfl, by decide, by decide +kernel⟩, by kernel_rfl, rfl, by kernel_rfl, by decide +kernel⟩
  · skip
    rcases vs with _ | ⟨a0, _ | ⟨a1, r⟩⟩
    · cases h
    · rfl
    · cases h
theorem def_21 (p : Params) : DefCK (KF p) (faF 21) c21 := by
  refine ⟨_, [("tokens" : Str), ("at" : Str)], _, _, _, 40, ⟨⟨_, _, _, _, _, _, _, _, _, _, _, rfl, fun vs h => ?_⟩, by kernel_rfl, rfl, rfl, rfl, by decide, by decide +kernel⟩, by kernel_rfl, rfl, by kernel_rfl, by decide +kernel⟩
  · skip
    rcases vs with _ | ⟨a0, _ | ⟨a1, _ | ⟨a2, r⟩⟩⟩
    · cases h
    · cases h
    · rfl
    · cases h
theorem def_22 (p : Params) : DefCK (KF p) (faF 22) c22 := by
  refine ⟨_, [("tokens" : Str), ("at" : Str), ("text" : Str)], _, _, _, 40, ⟨⟨_, _, _, _, _, _, _, _, _, _, _, rfl, fun vs h => ?_⟩, by kernel_rfl, rfl, rfl, rfl, by decide, by decide +kernel⟩, by kernel_rfl, rfl, by kernel_rfl, by decide +kernel⟩
  · skip
    rcases vs with _ | ⟨a0, _ | ⟨a1, _ | ⟨a2, _ | ⟨a3, r⟩⟩⟩⟩
    · cases h
    · cases h
    · cases h
    · rfl
    · cases h
theorem def_23 (p : Params) : DefCK (KF p) (faF 23) c23 := by
  refine ⟨_, [("tokens" : Str), ("at" : Str), ("text" : Str)], _, _, _, 40, ⟨⟨_, _, _, _, _, _, _, _, _, _, _, rfl, fun vs h => ?_⟩, by kernel_rfl, rfl, rfl, rfl, by decide, by decide +kernel⟩, by kernel_rfl, rfl, by kernel_rfl, by decide +kernel⟩
  · skip
    rcases vs with _ | ⟨a0, _ | ⟨a1, _ | ⟨a2, _ | ⟨a3, r⟩⟩⟩⟩
    · cases h
    · cases h
    · cases h
    · rfl
    · cases h
theorem def_24 (p : Params) : DefCK (KF p) (faF 24) c24 := by
  refine ⟨_, [("tokens" : Str), ("at" : Str)], _, _, _, 40, ⟨⟨_, _, _, _, _, _, _, _, _, _, _, rfl, fun vs h => ?_⟩, by kernel_rfl, rfl, rfl, rfl, by decide, by decide +kernel⟩, by kernel_rfl, rfl, by kernel_rfl, by decide +kernel⟩
  · skip
    rcases vs with _ | ⟨a0, _ | ⟨a1, _ | ⟨a2, r⟩⟩⟩
    · cases h
    · cases h
    · rfl
    · cases h
theorem def_25 (p : Params) : DefCK (KF p) (faF 25) c25 := by
  refine ⟨_, [("tokens" : Str), ("at" : Str)], _, _, _, 40, ⟨⟨_, _, _, _, _, _, _, _, _, _, _, rfl, fun vs h => ?_⟩, by kernel_rfl, rfl, rfl, rfl, by decide, by decide +kernel⟩, by kernel_rfl, rfl, by kernel_rfl, by decide +kernel⟩
  · skip
    rcases vs with _ | ⟨a0, _ | ⟨a1, _ | ⟨a2, r⟩⟩⟩
    · cases h
    · cases h
    · rfl
    · cases h
theorem def_26 (p : Params) : DefCK (KF p) (faF 26) c26 := by
  refine ⟨_, [("tokens" : Str), ("at" : Str)], _, _, _, 40, ⟨⟨_, _, _, _, _, _, _, _, _, _, _, rfl, fun vs h => ?_⟩, by kernel_rfl, rfl, rfl, rfl, by decide, by decide +kernel⟩, by kernel_rfl, rfl, by kernel_rfl, by decide +kernel⟩
  · skip
    rcases vs with _ | ⟨a0, _ | ⟨a1, _ | ⟨a2, r⟩⟩⟩
    · cases h
    · cases h
    · rfl
    · cases h
theorem def_27 (p : Params) : DefCK (KF p) (faF 27) c27 := by
  refine ⟨_, [("tokens" : Str), ("at" : Str)], _, _, _, 40, ⟨⟨_, _, _, _, _, _, _, _, _, _, _, rfl, fun vs h => ?_⟩, by kernel_rfl, rfl, rfl, rfl, by decide, by decide +kernel⟩, by kernel_rfl, rfl, by kernel_rfl, by decide +kernel⟩
  · skip
    rcases vs with _ | ⟨a0, _ | ⟨a1, _ | ⟨a2, r⟩⟩⟩
    · cases h
    · cases h
    · rfl
    · cases h
theorem def_28 (p : Params) : DefCK (KF p) (faF 28) c28 := by
  refine ⟨_, [("tokens" : Str), ("at" : Str)], _, _, _, 40, ⟨⟨_, _, _, _, _, _, _, _, _, _, _, rfl, fun vs h => ?_⟩, by kernel_rfl, rfl, rfl, rfl, by decide, by decide +kernel⟩, by kernel_rfl, rfl, by kernel_rfl, by decide +kernel⟩
  · skip
    rcases vs with _ | ⟨a0, _ | ⟨a1, _ | ⟨a2, r⟩⟩⟩
    · cases h
    · cases h
    · rfl
    · cases h
theorem def_29 (p : Params) : DefCK (KF p) (faF 29) c29 := by
  refine ⟨_, [("tokens" : Str), ("at" : Str), ("least" : Str)], _, _, _, 40, ⟨⟨_, _, _, _, _, _, _, _, _, _, _, rfl, fun vs h => ?_⟩, by kernel_rfl, rfl, rfl, rfl, by decide, by decide +kernel⟩, by kernel_rfl, rfl, by kernel_rfl, by decide +kernel⟩
  · skip
    rcases vs with _ | ⟨a0, _ | ⟨a1, _ | ⟨a2, _ | ⟨a3, r⟩⟩⟩⟩
    · cases h
    · cases h
    · cases h
    · rfl
    · cases h
theorem def_30 (p : Params) : DefCK (KF p) (faF 30) c30 := by
  refine ⟨_, [("tokens" : Str), ("at" : Str), ("least" : Str)], _, _, _, 40, ⟨⟨_, _, _, _, _, _, _, _, _, _, _, rfl, fun vs h => ?_⟩, by kernel_rfl, rfl, rfl, rfl, by decide, by decide +kernel⟩, by kernel_rfl, rfl, by kernel_rfl, by decide +kernel⟩
  · skip
    rcases vs with _ | ⟨a0, _ | ⟨a1, _ | ⟨a2, _ | ⟨a3, r⟩⟩⟩⟩
    · cases h
    · cases h
    · cases h
    · rfl
    · cases h
theorem def_31 (p : Params) : DefCK (KF p) (faF 31) c31 := by
  refine ⟨_, [("tokens" : Str), ("at" : Str)], _, _, _, 40, ⟨⟨_, _, _, _, _, _, _, _, _, _, _, rfl, fun vs h => ?_⟩, by kernel_rfl, rfl, rfl, rfl, by decide, by decide +kernel⟩, by kernel_rfl, rfl, by kernel_rfl, by decide +kernel⟩
  · skip
    rcases vs with _ | ⟨a0, _ | ⟨a1, _ | ⟨a2, r⟩⟩⟩
    · cases h
    · cases h
    · rfl
    · cases h
theorem def_32 (p : Params) : DefCK (KF p) (faF 32) c32 := by
  refine ⟨_, [("kind" : Str), ("value" : Str), ("sign" : Str)], _, _, _, 40, ⟨⟨_, _, _, _, _, _, _, _, _, _, _, rfl, fun vs h => ?_⟩, by kernel_rfl, rfl, rfl, rfl, by decide, by decide +kernel⟩, by kernel_rfl, rfl, by kernel_rfl, by decide +kernel⟩
  · skip
    rcases vs with _ | ⟨a0, _ | ⟨a1, _ | ⟨a2, _ | ⟨a3, r⟩⟩⟩⟩
    · cases h
    · cases h
    · cases h
    · rfl
    · cases h
theorem def_33 (p : Params) : DefCK (KF p) (faF 33) c33 := by
  refine ⟨_, [("tokens" : Str), ("at" : Str)], _, _, _, 40, ⟨⟨_, _, _, _, _, _, _, _, _, _, _, rfl, fun vs h => ?_⟩, by kernel_rfl, rfl, rfl, rfl, by decide, by decide +kernel⟩, by kernel_rfl, rfl, by kernel_rfl, by decide +kernel⟩
  · skip
    rcases vs with _ | ⟨a0, _ | ⟨a1, _ | ⟨a2, r⟩⟩⟩
    · cases h
    · cases h
    · rfl
    · cases h
theorem def_34 (p : Params) : DefCK (KF p) (faF 34) c34 := by
  refine ⟨_, [("tokens" : Str), ("at" : Str)], _, _, _, 40, ⟨⟨_, _, _, _, _, _, _, _, _, _, _, rfl, fun vs h => ?_⟩, by kernel_rfl, rfl, rfl, rfl, by decide, by decide +kernel⟩, by kernel_rfl, rfl, by kernel_rfl, by decide +kernel⟩
  · skip
    rcases vs with _ | ⟨a0, _ | ⟨a1, _ | ⟨a2, r⟩⟩⟩
    · cases h
    · cases h
    · rfl
    · cases h
theorem def_35 (p : Params) : DefCK (KF p) (faF 35) c35 := by
  refine ⟨_, [("tokens" : Str), ("at" : Str)], _, _, _, 40, ⟨⟨_, _, _, _, _, _, _, _, _, _, _, rfl, fun vs h => ?_⟩, by kernel_rfl, rfl, rfl, rfl, by decide, by decide +kernel⟩, by kernel_rfl, rfl, by kernel_rfl, by decide +kernel⟩
  · skip
    rcases vs with _ | ⟨a0, _ | ⟨a1, _ | ⟨a2, r⟩⟩⟩
    · cases h
    · cases h
    · rfl
    · cases h
theorem def_36 (p : Params) : DefCK (KF p) (faF 36) c36 := by
  refine ⟨_, [("tokens" : Str), ("at" : Str)], _, _, _, 40, ⟨⟨_, _, _, _, _, _, _, _, _, _, _, rfl, fun vs h => ?_⟩, by kernel_rfl, rfl, rfl, rfl, by decide, by decide +kernel⟩, by kernel_rfl, rfl, by kernel_rfl, by decide +kernel⟩
  · skip
    rcases vs with _ | ⟨a0, _ | ⟨a1, _ | ⟨a2, r⟩⟩⟩
    · cases h
    · cases h
    · rfl
    · cases h
theorem def_37 (p : Params) : DefCK (KF p) (faF 37) c37 := by
  refine ⟨_, [("tokens" : Str), ("at" : Str)], _, _, _, 40, ⟨⟨_, _, _, _, _, _, _, _, _, _, _, rfl, fun vs h => ?_⟩, by kernel_rfl, rfl, rfl, rfl, by decide, by decide +kernel⟩, by kernel_rfl, rfl, by kernel_rfl, by decide +kernel⟩
  · skip
    rcases vs with _ | ⟨a0, _ | ⟨a1, _ | ⟨a2, r⟩⟩⟩
    · cases h
    · cases h
    · rfl
    · cases h
theorem def_38 (p : Params) : DefCK (KF p) (faF 38) c38 := by
  refine ⟨_, [("tokens" : Str), ("at" : Str)], _, _, _, 40, ⟨⟨_, _, _, _, _, _, _, _, _, _, _, rfl, fun vs h => ?_⟩, by kernel_rfl, rfl, rfl, rfl, by decide, by decide +kernel⟩, by kernel_rfl, rfl, by kernel_rfl, by decide +kernel⟩
  · skip
    rcases vs with _ | ⟨a0, _ | ⟨a1, _ | ⟨a2, r⟩⟩⟩
    · cases h
    · cases h
    · rfl
    · cases h
theorem def_39 (p : Params) : DefCK (KF p) (faF 39) c39 := by
  refine ⟨_, [("tokens" : Str), ("at" : Str), ("base" : Str)], _, _, _, 40, ⟨⟨_, _, _, _, _, _, _, _, _, _, _, rfl, fun vs h => ?_⟩, by kernel_rfl, rfl, rfl, rfl, by decide, by decide +kernel⟩, by kernel_rfl, rfl, by kernel_rfl, by decide +kernel⟩
  · skip
    rcases vs with _ | ⟨a0, _ | ⟨a1, _ | ⟨a2, _ | ⟨a3, r⟩⟩⟩⟩
    · cases h
    · cases h
    · cases h
    · rfl
    · cases h
theorem def_40 (p : Params) : DefCK (KF p) (faF 40) c40 := by
  refine ⟨_, [("tokens" : Str), ("at" : Str), ("may_return" : Str)], _, _, _, 40, ⟨⟨_, _, _, _, _, _, _, _, _, _, _, rfl, fun vs h => ?_⟩, by kernel_rfl, rfl, rfl, rfl, by decide, by decide +kernel⟩, by kernel_rfl, rfl, by kernel_rfl, by decide +kernel⟩
  · skip
    rcases vs with _ | ⟨a0, _ | ⟨a1, _ | ⟨a2, _ | ⟨a3, r⟩⟩⟩⟩
    · cases h
    · cases h
    · cases h
    · rfl
    · cases h
theorem def_41 (p : Params) : DefCK (KF p) (faF 41) c41 := by
  refine ⟨_, [("tokens" : Str)], _, _, _, 40, ⟨⟨_, _, _, _, _, _, _, _, _, _, _, rfl, fun vs h => ?_⟩, by kernel_rfl, rfl, rfl, rfl, by decide, by decide +kernel⟩, by kernel_rfl, rfl, by kernel_rfl, by decide +kernel⟩
  · skip
    rcases vs with _ | ⟨a0, _ | ⟨a1, r⟩⟩
    · cases h
    · rfl
    · cases h
theorem def_42 (p : Params) : DefCK (KF p) (faF 42) c42 := by
  refine ⟨_, ([] : List Str), _, _, _, 40, ⟨⟨_, _, _, _, _, _, _, _, _, _, _, rfl, fun vs h => ?_⟩, by kernel_rfl, rfl, rfl, rfl, by decide, by decide +kernel⟩, by kernel_rfl, rfl, by kernel_rfl, by decide +kernel⟩
  · skip
    rcases vs with _ | ⟨a0, r⟩
    · rfl
    · cases h
theorem def_43 (p : Params) : DefCK (KF p) (faF 43) c43 := by
  refine ⟨_, ([] : List Str), _, _, _, 40, ⟨⟨_, _, _, _, _, _, _, _, _, _, _, rfl, fun vs h => ?_⟩, by kernel_rfl, rfl, rfl, rfl, by decide, by decide +kernel⟩, by kernel_rfl, rfl, by kernel_rfl, by decide +kernel⟩
  · skip
    rcases vs with _ | ⟨a0, r⟩
    · rfl
    · cases h
theorem def_44 (p : Params) : DefCK (KF p) (faF 44) c44 := by
  refine ⟨_, ([] : List Str), _, _, _, 40, ⟨⟨_, _, _, _, _, _, _, _, _, _, _, rfl, fun vs h => ?_⟩, by kernel_rfl, rfl, rfl, rfl, by decide, by decide +kernel⟩, by kernel_rfl, rfl, by kernel_rfl, by decide +kernel⟩
  · skip
    rcases vs with _ | ⟨a0, r⟩
    · rfl
    · cases h
theorem def_45 (p : Params) : DefCK (KF p) (faF 45) c45 := by
  refine ⟨_, [("tape" : Str), ("n" : Str)], _, _, _, 40, ⟨⟨_, _, _, _, _, _, _, _, _, _, _, rfl, fun vs h => ?_⟩, by kernel_rfl, rfl, rfl, rfl, by decide, by decide +kernel⟩, by kernel_rfl, rfl, by kernel_rfl, by decide +kernel⟩
  · skip
    rcases vs with _ | ⟨a0, _ | ⟨a1, _ | ⟨a2, r⟩⟩⟩
    · cases h
    · cases h
    · rfl
    · cases h
theorem def_46 (p : Params) : DefCK (KF p) (faF 46) c46 := by
  refine ⟨_, [("tape" : Str)], _, _, _, 40, ⟨⟨_, _, _, _, _, _, _, _, _, _, _, rfl, fun vs h => ?_⟩, by kernel_rfl, rfl, rfl, rfl, by decide, by decide +kernel⟩, by kernel_rfl, rfl, by kernel_rfl, by decide +kernel⟩
  · skip
    rcases vs with _ | ⟨a0, _ | ⟨a1, r⟩⟩
    · cases h
    · rfl
    · cases h
theorem def_47 (p : Params) : DefCK (KF p) (faF 47) c47 := by
  refine ⟨_, [("tape" : Str)], _, _, _, 40, ⟨⟨_, _, _, _, _, _, _, _, _, _, _, rfl, fun vs h => ?_⟩, by kernel_rfl, rfl, rfl, rfl, by decide, by decide +kernel⟩, by kernel_rfl, rfl, by kernel_rfl, by decide +kernel⟩
  · skip
    rcases vs with _ | ⟨a0, _ | ⟨a1, r⟩⟩
    · cases h
    · rfl
    · cases h
theorem def_48 (p : Params) : DefCK (KF p) (faF 48) c48 := by
  refine ⟨_, [("tape" : Str), ("way" : Str)], _, _, _, 40, ⟨⟨_, _, _, _, _, _, _, _, _, _, _, rfl, fun vs h => ?_⟩, by kernel_rfl, rfl, rfl, rfl, by decide, by decide +kernel⟩, by kernel_rfl, rfl, by kernel_rfl, by decide +kernel⟩
  · skip
    rcases vs with _ | ⟨a0, _ | ⟨a1, _ | ⟨a2, r⟩⟩⟩
    · cases h
    · cases h
    · rfl
    · cases h
theorem def_49 (p : Params) : DefCK (KF p) (faF 49) c49 := by
  refine ⟨_, [("tape" : Str), ("deep" : Str)], _, _, _, 40, ⟨⟨_, _, _, _, _, _, _, _, _, _, _, rfl, fun vs h => ?_⟩, by kernel_rfl, rfl, rfl, rfl, by decide, by decide +kernel⟩, by kernel_rfl, rfl, by kernel_rfl, by decide +kernel⟩
  · skip
    rcases vs with _ | ⟨a0, _ | ⟨a1, _ | ⟨a2, r⟩⟩⟩
    · cases h
    · cases h
    · rfl
    · cases h
theorem def_51 (p : Params) : DefCK (KF p) (faF 51) c51 := by
  refine ⟨_, [("tape" : Str), ("deep" : Str)], _, _, _, 40, ⟨⟨_, _, _, _, _, _, _, _, _, _, _, rfl, fun vs h => ?_⟩, by kernel_rfl, rfl, rfl, rfl, by decide, by decide +kernel⟩, by kernel_rfl, rfl, by kernel_rfl, by decide +kernel⟩
  · skip
    rcases vs with _ | ⟨a0, _ | ⟨a1, _ | ⟨a2, r⟩⟩⟩
    · cases h
    · cases h
    · rfl
    · cases h
theorem def_52 (p : Params) : DefCK (KF p) (faF 52) c52 := by
  refine ⟨_, [("text" : Str)], _, _, _, 40, ⟨⟨_, _, _, _, _, _, _, _, _, _, _, rfl, fun vs h => ?_⟩, by kernel_rfl, rfl, rfl, rfl, by decide, by decide +kernel⟩, by kernel_rfl, rfl, by kernel_rfl, by decide +kernel⟩
  · skip
    rcases vs with _ | ⟨a0, _ | ⟨a1, r⟩⟩
    · cases h
    · rfl
    · cases h
end Mine
namespace Mine
open PySem PySem.W PySem.Calls PyProof.Rows
theorem show_K (p : Params) : ShowK (KF p) (faF 12) := by
  refine ⟨_, _, _, _, _, _, _, _, _, _, _, _, _, _, _, _, _, ⟨⟨_, _, _, _, _, _, _, _, _, _, _, rfl, fun vs h => ?_⟩, by kernel_rfl, rfl, rfl, rfl, by decide, by decide +kernel⟩, by kernel_rfl, by kernel_rfl, by decide +kernel⟩
  rcases vs with _ | ⟨a, _ | ⟨b, r⟩⟩
  · cases h
  · rfl
  · cases h
theorem row_K (p : Params) : RowK (KF p) (faF 15) := by
  refine ⟨_, _, _, _, _, _, _, _, _, _, _, _, _, _, _, ⟨⟨_, _, _, _, _, _, _, _, _, _, _, rfl, fun vs h => ?_⟩, by kernel_rfl, rfl, rfl, rfl, by decide, by decide +kernel⟩, by kernel_rfl, by kernel_rfl, by decide +kernel, rfl, rfl⟩
  rcases vs with _ | ⟨a, _ | ⟨b, r⟩⟩
  · cases h
  · rfl
  · cases h
theorem ref_K (p : Params) : RefK (KF p) (faF 50) :=
  ⟨_, _, _, _, _, _, _, _, _, _, _, _, _, _, _, _, _, _, _, _, _, _, _, _, _, _, _, _, _, _, _, _, _, ⟨_, _, _, _, _, _, _, _, _, _, _, rfl, fun v1 v2 => rfl⟩, by kernel_rfl, rfl, rfl, rfl, rfl, rfl, rfl⟩
theorem plain_K (p : Params) : ∀ k f, fdOf k = some f → DefCK (KF p) (faF k) f := by
  intro k f h
  match k, h with
  | 0, h => cases (show some c0 = some f from h); exact def_0 p
  | 1, h => cases (show some c1 = some f from h); exact def_1 p
  | 2, h => cases (show some c2 = some f from h); exact def_2 p
  | 3, h => cases (show some c3 = some f from h); exact def_3 p
  | 4, h => cases (show some c4 = some f from h); exact def_4 p
  | 5, h => cases (show some c5 = some f from h); exact def_5 p
  | 6, h => cases (show some c6 = some f from h); exact def_6 p
  | 7, h => cases (show some c7 = some f from h); exact def_7 p
  | 8, h => cases (show some c8 = some f from h); exact def_8 p
  | 9, h => cases (show some c9 = some f from h); exact def_9 p
  | 10, h => cases (show some c10 = some f from h); exact def_10 p
  | 11, h => cases (show some c11 = some f from h); exact def_11 p
  | 12, h => cases h
  | 13, h => cases (show some c13 = some f from h); exact def_13 p
  | 14, h => cases (show some c14 = some f from h); exact def_14 p
  | 15, h => cases h
  | 16, h => cases (show some c16 = some f from h); exact def_16 p
  | 17, h => cases (show some c17 = some f from h); exact def_17 p
  | 18, h => cases (show some c18 = some f from h); exact def_18 p
  | 19, h => cases (show some c19 = some f from h); exact def_19 p
  | 20, h => cases (show some c20 = some f from h); exact def_20 p
  | 21, h => cases (show some c21 = some f from h); exact def_21 p
  | 22, h => cases (show some c22 = some f from h); exact def_22 p
  | 23, h => cases (show some c23 = some f from h); exact def_23 p
  | 24, h => cases (show some c24 = some f from h); exact def_24 p
  | 25, h => cases (show some c25 = some f from h); exact def_25 p
  | 26, h => cases (show some c26 = some f from h); exact def_26 p
  | 27, h => cases (show some c27 = some f from h); exact def_27 p
  | 28, h => cases (show some c28 = some f from h); exact def_28 p
  | 29, h => cases (show some c29 = some f from h); exact def_29 p
  | 30, h => cases (show some c30 = some f from h); exact def_30 p
  | 31, h => cases (show some c31 = some f from h); exact def_31 p
  | 32, h => cases (show some c32 = some f from h); exact def_32 p
  | 33, h => cases (show some c33 = some f from h); exact def_33 p
  | 34, h => cases (show some c34 = some f from h); exact def_34 p
  | 35, h => cases (show some c35 = some f from h); exact def_35 p
  | 36, h => cases (show some c36 = some f from h); exact def_36 p
  | 37, h => cases (show some c37 = some f from h); exact def_37 p
  | 38, h => cases (show some c38 = some f from h); exact def_38 p
  | 39, h => cases (show some c39 = some f from h); exact def_39 p
  | 40, h => cases (show some c40 = some f from h); exact def_40 p
  | 41, h => cases (show some c41 = some f from h); exact def_41 p
  | 42, h => cases (show some c42 = some f from h); exact def_42 p
  | 43, h => cases (show some c43 = some f from h); exact def_43 p
  | 44, h => cases (show some c44 = some f from h); exact def_44 p
  | 45, h => cases (show some c45 = some f from h); exact def_45 p
  | 46, h => cases (show some c46 = some f from h); exact def_46 p
  | 47, h => cases (show some c47 = some f from h); exact def_47 p
  | 48, h => cases (show some c48 = some f from h); exact def_48 p
  | 49, h => cases (show some c49 = some f from h); exact def_49 p
  | 50, h => cases h
  | 51, h => cases (show some c51 = some f from h); exact def_51 p
  | 52, h => cases (show some c52 = some f from h); exact def_52 p
  | 53, h => cases h
  | 54, h => cases h
  | k + 55, h => cases h
noncomputable def GCof (prog : Program) (w : World) (pv : Program) (s : Shared) (loose : List Str) (mean : ExcName → Option Value) (mg mb : Str → Option Value) : GC :=
  { prog := prog, w := w, KF := KF w.params, p := pv, loose := loose, mean := mean, mg := mg, mb := mb, base := s.heap, ta := taF, s₀ := s, fa := faF, ca := caF }
theorem tab_0 (p : Params) : ∃ es n, (KF p).lookup 159 = some ⟨.type "dict", none, .dict es n, #[]⟩ ∧ KeysLit p es.toList ∧ tabB (KF p) 40 es.toList bindsT = true := by
  refine ⟨_, _, rfl, ?_, by kernel_rfl⟩
  repeat (first | exact trivial | refine ⟨⟨_, _, rfl, rfl⟩, ?_⟩)
theorem tab_1 (p : Params) : ∃ es n, (KF p).lookup 176 = some ⟨.type "dict", none, .dict es n, #[]⟩ ∧ KeysLit p es.toList ∧ tabB (KF p) 40 es.toList unaryT = true := by
  refine ⟨_, _, rfl, ?_, by kernel_rfl⟩
  repeat (first | exact trivial | refine ⟨⟨_, _, rfl, rfl⟩, ?_⟩)
theorem tab_2 (p : Params) : ∃ es n, (KF p).lookup 276 = some ⟨.type "dict", none, .dict es n, #[]⟩ ∧ KeysLit p es.toList ∧ tabB (KF p) 40 es.toList priosT = true := by
  refine ⟨_, _, rfl, ?_, by kernel_rfl⟩
  repeat (first | exact trivial | refine ⟨⟨_, _, rfl, rfl⟩, ?_⟩)
section
variable {prog : Program} {w : World} {pv : Program} {s : Shared} {loose : List Str} {mean : ExcName → Option Value} {mg mb : Str → Option Value}
theorem gc_ok (X : (KF w.params).In s.heap) (T : Top pv loose mean mg mb s.heap) : (GCof prog w pv s loose mean mg mb).Ok := by
  have hall := defs_ok w.params
  have hk : ∀ x k, dnames.findIdx? (· == x) = some k → nsIn (KF w.params) mainGlobals x = some (some (.ref (faF k))) ∧ keepIn (KF w.params) (.ref (faF k)) = true := by
    intro x k h
    obtain ⟨hlt, hx, _⟩ := List.findIdx?_eq_some_iff_getElem.mp h
    have hlen : dnames.length = 55 := by rw [names_ok]; rfl
    have := List.all_eq_true.mp hall k (List.mem_range.mpr (by omega))
    rw [List.getElem?_eq_getElem hlt] at this
    have hx' : dnames[k] = x := beq_iff_eq.mp hx
    rw [hx'] at this
    dsimp only at this
    split at this
    · rename_i a q
      simp only [Bool.and_eq_true, beq_iff_eq] at this
      rw [this.1] at q this
      exact ⟨q, this.2⟩
    · cases this
  have hb := List.all_eq_true.mp (nobi_ok w.params)
  have hb' : ∀ x : Str, x ∈ ([("len" : Str), "int", "str", "abs", "max", "range", "Exception"]) → nsIn (KF w.params) mainGlobals x = some none := by
    intro x hx
    have := hb x hx
    split at this
    · assumption
    · cases this
  exact {
    X := X
    T := T
    gconst := fun x d h => by
      have := List.all_eq_true.mp (consts_ok w.params) _ (lookup_mem h)
      dsimp only at this
      split at this
      · rename_i v q
        exact ⟨v, q, (rep_ok X 40).1 _ _ this⟩
      · cases this
    defs := fun x k h => (hk x k h).1
    defk := fun x k h => (hk x k h).2
    nobi := fun b => hb' _ (by cases b <;> decide +kernel)
    norange := hb' _ (by decide +kernel)
    tabs := fun k a str h => by
      have key : ∀ (tb : List (List Nat × PV)) a, (∃ es n, (KF w.params).lookup a = some ⟨.type "dict", none, .dict es n, #[]⟩ ∧ KeysLit w.params es.toList ∧ tabB (KF w.params) 40 es.toList tb = true) → (∃ es n, (KF w.params).lookup a = some ⟨.type "dict", none, .dict es n, #[]⟩ ∧ KeysLit w.params es.toList ∧
          (match tb.lookup str with
          | some d => ∃ v, nsIn (KF w.params) a ⟨str.toArray⟩ = some (some v) ∧ RepV s.heap taF [] [] v d
          | none => nsIn (KF w.params) a ⟨str.toArray⟩ = some none)) := by
        rintro tb a ⟨es, n, h1, h2, h3⟩
        refine ⟨es, n, h1, h2, ?_⟩
        have := tab_find X h3 str
        unfold nsIn
        rw [h1]
        dsimp only
        cases hl : tb.lookup str with
        | some d =>
          rw [hl] at this
          obtain ⟨e, he, hr⟩ := this
          exact ⟨e.val, by rw [he], hr⟩
        | none =>
          rw [hl] at this
          rw [this.1]
          dsimp only
          rw [this.2]
          rfl
      match k, h with
      | 0, h => cases h; exact ⟨by decide +kernel, key bindsT 159 (tab_0 w.params)⟩
      | 1, h => cases h; exact ⟨by decide +kernel, key unaryT 176 (tab_1 w.params)⟩
      | 2, h => cases h; exact ⟨by decide +kernel, key priosT 276 (tab_2 w.params)⟩
      | k + 3, h => cases h
    excs := fun i hi => by
      match i, hi with
      | 0, _ => exact lex_ns w.params
      | 1, _ => exact syn_ns w.params }
theorem ek_ok : ExcK (GCof prog w pv s loose mean mg mb) := {
  hex := by
    have := List.all_eq_true.mp (nobi_ok w.params) "Exception" (by decide +kernel)
    split at this
    · assumption
    · cases this
  one := ⟨31, 28, one_ok w.params⟩
  lex := ⟨_, 48, cls_lex w.params, two_ok w.params, show findIn (KF w.params) _ _ = _ by kernel_rfl, show typeIn (KF w.params) _ = _ by kernel_rfl, show keepIn (KF w.params) _ = _ by kernel_rfl⟩
  syn := ⟨_, 28, cls_syn w.params, (one_ok w.params).one, show findIn (KF w.params) _ _ = _ by kernel_rfl, show typeIn (KF w.params) _ = _ by kernel_rfl, show keepIn (KF w.params) _ = _ by kernel_rfl⟩ }
theorem defsK_ok : DefsK (GCof prog w pv s loose mean mg mb) := {
  plain := fun k f h => ⟨plain_K w.params k f h⟩
  shw := show_K w.params
  row := row_K w.params
  ref := ref_K w.params }
end
end Mine
namespace Mine
open PySem PySem.W PySem.Calls PyProof.Rows
section
variable {M : Model} {A : Around} {E : Value → Shared → Prop}
variable {nm q nm' q' : Str} {C N Cb N' : Addr} {bs bm bs' bm' : List Value} {hdct hdct' : Bool} {sn sn' : List Str} {sub sub' : List Value} {ab ab' : Bool} {col col' : Option Bool} {dd dd' : Option Addr} {k0 k1 k2 k3 k5 l0 l1 l2 l3 l5 : Option Value}
theorem excMatches_own {h : Heap} {g : Array GenState} {d : Drawn} {t : Nat} {os : OsState} {e : Addr} {oe : Obj} {Q : Bool → Shared → Prop}
    (hC : h.get? C = some (clsO nm q C N bs bm hdct sn sub ab col dd k0 k1 k2 k3 k5)) (hB : h.get? Cb = some (clsO nm' q' Cb N' bs' bm' hdct' sn' sub' ab' col' dd' l0 l1 l2 l3 l5)) (he : h.get? e = some oe) (hcls : oe.cls = .ref C) (hsub : bm.contains (.ref Cb) = true) (T : HasE bm')
    (hq : Q true ⟨h, g, d, t, os⟩) : wpAny M A (excMatches (.ref e) (.ref Cb)) Q E ⟨h, g, d, t, os⟩ := by
  have hcB : (Value.ref Cb :: bm').contains (.type "BaseException") = true := by rw [List.contains_cons, T _ _ FE.hasBase, Bool.or_true]
  have hcC : (Value.ref C :: bm).contains (.ref Cb) = true := by rw [List.contains_cons, hsub, Bool.or_true]
  have f := tc_notTuple
  unfold excMatches
  repeat (first | (with_reducible refine wpAny_loadPart_at he ?_; rw [hcls]) | with_reducible refine wpAny_loadPart_at hB ?_ | (with_reducible refine wpAny_isSubtype_exc hB ?_; rw [hcB]) | (with_reducible refine wpAny_isSubtype_exc hC ?_; rw [hcC]) | wp_step)
  exact hq
end
section
variable {prog : Program} {w : World} {A₀ : Around} {E : Value → Shared → Prop} {s' : Shared} {base g g₀ G : Heap} {outer : List Env} {L a e : Addr} {m : Str → Option Value} {name : Str} {scope : Scope} {cd : Value}
  {b₀ : Stmt} {suite : List Stmt} {pos np : Pos} {rest : List ExceptHandler} {Q : Flow → Shared → Prop} {news : List (Addr × Obj)} {KF : Frag}
  {p : Program} {loose : List Str} {mean : ExcName → Option Value} {mg mb : Str → Option Value} {x : Str} {C Cb : Addr} {bm bm' : List Value}
theorem caughtO (R : RaisedSN base G (envOf name scope L a cd :: outer) e (.ref C) news s'.heap) (F : Fr g L G m) (K : Below A₀ base outer g) (hsm : G.UpToSlots s'.heap) (XB : KF.In base) (TB : Top p loose mean mg mb base)
    (D : KtsDicts (outer.filterMap (·.frame)) g) (ex : nsIn KF mainGlobals x = some (some (.ref Cb))) (CK : ClsK KF C bm) (CB : ClsK KF Cb bm') (hsub : bm.contains (.ref Cb) = true)
    (k : ∀ h' g', KtsTurn (outer.filterMap (·.frame)) g g' → Fr g' L h' m → News g' L h' news →
      wpAny (model prog w) ((A₀.deeper (envOf name scope L a cd)).mark (some (.ref e))) (execs (b₀ :: suite) (envOf name scope L a cd)) Q E { s' with heap := h' })
    (hk : scope.kind = .function) (hx : (envOf name scope L a cd).kindOf x = some .globalImplicit) (hd : (x == ("__debug__" : Str)) = false)
    (hE : PassesOwnAt (model prog w) ((A₀.deeper (envOf name scope L a cd)).mark (some (.ref e))) (A₀.deeper (envOf name scope L a cd)) (envOf name scope L a cd) E) :
    wpAny (model prog w) (A₀.deeper (envOf name scope L a cd)) (noteFrame (.ref e) (envOf name scope L a cd))
      (fun _ s₂ => wpAny (model prog w) (A₀.deeper (envOf name scope L a cd)) (setFlight (.ref e) none) (fun _ s₃ =>
        wpAny (model prog w) (A₀.deeper (envOf name scope L a cd)) (handleBy (.ref e) (envOf name scope L a cd) (.ExceptHandler (some (.Name x np)) none (b₀ :: suite) pos :: rest)) Q E s₃) E s₂) E s' := by
  obtain ⟨B, a0, hB, hBG, hl, hfl⟩ := R
  have hL : B.get? L = none := by
    obtain ⟨_, ⟨L', _, hf, hn', _⟩, _⟩ := hfl.2.2.1
    obtain rfl : L = L' := Option.some.inj hf
    exact hn'
  refine wpAny_looks_onW (Around.frames_deeper K.stack) rfl hfl fun h₄ hheld₄ hsm₄ => ?_
  refine wpAny_landsW hheld₄ fun h₅ hheld hsm₅' => ?_
  have hsm₅ := hsm₄.trans hsm₅'
  obtain ⟨g₅, T₅, F₅, K₅⟩ := kts_ground K F hBG hheld.1 (hsm.trans hsm₅)
  have X₅ : KF.In g₅ := XB.keeps K₅.stays
  have P₅ : TopRead p loose mg mb g₅ := topRead_of (TB.keeps K₅.stays)
  obtain ⟨ob, hob, hobc⟩ := hheld.there
  obtain ⟨nm, q, N, bs, sn, sub, ab, col, dd, k0, k1, k2, k3, k5, hC⟩ := CK.obj
  obtain ⟨nm', q', N', bs', sn', sub', ab', col', dd', l0, l1, l2, l3, l5, hCb⟩ := CB.obj
  refine wpAny_handleBy_cons (codeAny_handlers_test (name_K F₅ X₅ P₅ ex ?_ hk hx hd)) (by intro q; cases q)
  refine excMatches_own (F₅.keep _ _ (X₅ _ _ hC)) (F₅.keep _ _ (X₅ _ _ hCb)) hob hobc hsub CB.has (codeAny_handlers_suite ?_)
  refine lands_againW hheld fun h₆ hfl₆ hsm₆ => ?_
  obtain ⟨g₆, T₆, F₆, K₆⟩ := kts_ground K F hBG hfl₆.1 ((hsm.trans hsm₅).trans hsm₆)
  have Nl : News g₆ L h₆ news := fun q hq => ⟨hfl₆.1 _ _ (hl q hq).1, (fun z => by have := (hl q hq).1; rw [z, hL] at this; cases this), T₆.none_ _ (kts_none F.keep (hl q hq).2.1)⟩
  exact wpAny_passesOwnAt hE (k h₆ g₆ T₆ F₆ Nl)
end
def ReadK (K : Frag) (f : Addr) : Prop := ∃ qual scope cdv k p1 p2 p3 p4 p5 p6 p7 p8 p9 p10 p11, DefK K f qual ["text"]
  [.Try [.Return (some (.Call (.Name "whole_expr" p1) [.Call (.Name "tokens_of" p2) [.Name "text" p3] [] p4] [] p5)) p6] [.ExceptHandler (some (.Name "F77Error" p7)) none [.Return (some (.Constant .none k p8)) p9] p10] [] [] p11] scope cdv ∧
  scope.names = [(("text" : Str), .local), ("whole_expr", .globalImplicit), ("tokens_of", .globalImplicit), ("F77Error", .globalImplicit)]
/-- what the reading of a text answers -/
def readP (C : Nat → List PV → Store → Out (PV × Store)) (s : List Nat) : Option PV := match (C 9 [.str s] []).bind fun r => C 41 [r.1] r.2 with
  | .ok (v, []) => if noLoc v then some v else none
  | .exc => some .none
  | _ => none
section
variable {Γ : GC} {c : FC} {C : Nat → List PV → Store → Out (PV × Store)}
set_option maxHeartbeats 1000000 in
theorem call_read (gok : Γ.Ok) (cok : c.Ok Γ) {f Cb : Addr} {bm0 bm1 bmb : List Value} (RK : ReadK Γ.KF f) (hcells : c.cells = []) (hout : c.outer = []) (hf77 : nsIn Γ.KF mainGlobals "F77Error" = some (some (.ref Cb))) (C0 : ClsK Γ.KF (Γ.ca 0) bm0) (C1 : ClsK Γ.KF (Γ.ca 1) bm1) (CB : ClsK Γ.KF Cb bmb) (h0 : bm0.contains (.ref Cb) = true) (h1 : bm1.contains (.ref Cb) = true)
    (hd : c.dp + 12 < recursionLimit) (hu : c.un + 104 < cLine) (hC : ∀ c' : FC, c'.Ok Γ → c'.dp = c.dp + 1 → c'.un = c.un + 3 → CallOk Γ c' C)
    {env : Env'} {h : Heap} {tk : Nat} {news : List (Addr × Obj)} {v : Value} {s : List Nat} {pv : PV} {Q : Value → Shared → Prop} (I : Inv Γ c h env [] news []) (rv : RepV Γ.base Γ.ta news [] v (.str s)) (hr : readP C s = some pv)
    (hq : ∀ v h' tk' news', Inv Γ c h' env [] news' [] → RepV Γ.base Γ.ta news' [] v pv → Grow news [] news' [] → (∀ m, Fr c.g c.L h m → Fr c.g c.L h' m) → Q v (Γ.st h' tk')) :
    wpAny (model Γ.prog Γ.w) c.A (call (.ref f) [v]) Q c.E (Γ.st h tk) := by
  obtain ⟨qual, scope, cdv, k, p1, p2, p3, p4, p5, p6, p7, p8, p9, p10, p11, DK, hn⟩ := RK
  have hX := gok.X.keeps cok.B.stays
  have hT := gok.T.keeps cok.B.stays
  obtain ⟨⟨m, F, hm⟩, NN, S, G⟩ := id I
  have henv : c.env = envOf c.cn c.cs c.L c.a c.cd := by
    unfold FC.env
    rw [hcells]; rfl
  have hB : Below c.A₀ Γ.base [] c.g := by rw [← hout]; exact cok.B
  have hA : c.A.frames = some [envOf c.cn c.cs c.L c.a c.cd] := by
    show some (c.env :: c.outer) = _
    rw [henv, hout]
  obtain ⟨name, params, dV, kV, doc, pm, an, ct, oc, od, osl, hlook, hbind⟩ := DK.look
  refine wpAny_call (code_defS0 (s := Γ.st h tk) hB F hX NN hT hA hlook DK.code (by show c.dp < recursionLimit; omega) (BindsTo.of_eq (hbind [v] rfl)) (fun y hy => DK.loc _ (List.of_mem_zip hy).1) (fun g L' h₁ FG F' N' B' X' T' D' => ?_) cok.kind DK.co DK.gen DK.kind DK.cell)
  have hlk : ∀ x kd, scope.names.lookup x = some kd → (envOf qual scope L' f cdv).kindOf x = some kd := fun _ _ h => h
  let mkC : (Value → Shared → Prop) → FC := fun Eb => { cn := qual, cs := scope, L := L', a := f, cd := cdv, outer := [envOf c.cn c.cs c.L c.a c.cd], g := g, dp := c.dp + 1, un := c.un + 3, gd := c.gd, A₀ := c.A, nm := [("text" : Str)], news₀ := news, ls₀ := [], may := ((C 9 [.str s] []).bind fun r => C 41 [r.1] r.2) = .exc, own := False, cells := [], E := Eb }
  have hAd : c.A.deeper (envOf qual scope L' f cdv) = (mkC (fun _ _ => True)).A := by
    show _ = Around.mk _ _ _ _ _
    unfold FC.A
    rw [henv, hout]
    rfl
  have key : ∀ (Qb : Flow → Shared → Prop) (Eb : Value → Shared → Prop) (tk1 : Nat), PassesOwn (model Γ.prog Γ.w) (c.A.deeper (envOf qual scope L' f cdv)) (envOf qual scope L' f cdv) Eb →
      (∀ e h' tk' cls nw lw g₂ m₀, pv = .none → Grow news [] nw lw → Γ.isFault cls → Fr g L' g₂ m₀ → RaisedSN Γ.base g₂ (envOf qual scope L' f cdv :: [envOf c.cn c.cs c.L c.a c.cd]) e cls nw h' → g₂.UpToSlots h' → Eb (.ref e) (Γ.st h' tk')) →
      (∀ v h' tk' nw m', RepV Γ.base Γ.ta nw [] v pv → Fr g L' h' m' → News g L' h' nw → Grow news [] nw [] → Qb (.ret v) (Γ.st h' tk')) →
      wpAny (model Γ.prog Γ.w) (c.A.deeper (envOf qual scope L' f cdv)) (execs [.Return (some (.Call (.Name "whole_expr" p1) [.Call (.Name "tokens_of" p2) [.Name "text" p3] [] p4] [] p5)) p6] (envOf qual scope L' f cdv)) Qb Eb (Γ.st h₁ tk1) := by
    intro Qb Eb tk1 hEb hexc hok
    have cok' : (mkC Eb).Ok Γ := {
      B := B'
      kind := DK.kind
      nmnd := List.pairwise_singleton _ _
      hE := by rw [hAd] at hEb; exact hEb
      hX := by
        rintro may e h' tk' ⟨cls, nw, lw, gr, hf, ⟨own, _⟩ | ⟨g₂, m₀, F₀, R, U⟩⟩
        · exact own.elim
        · refine hexc e h' tk' cls nw lw g₂ m₀ ?_ gr hf F₀ R U
          unfold readP at hr
          rw [show ((C 9 [.str s] []).bind fun r => C 41 [r.1] r.2) = .exc from may] at hr
          exact (Option.some.inj hr).symm
      room := by show c.un + 3 + 100 < cLine; omega
      roomD := by show c.dp + 1 + 10 < recursionLimit; omega }
    have hC' := hC (mkC Eb) cok' rfl rfl
    have hslot : slot ⟨scope, [("text" : Str)], dnames, consts⟩ "text" = some 0 := by
      unfold slot
      show (if _ then some 0 else none) = some 0
      rw [show (CX.mk scope [("text" : Str)] dnames consts).sc.names.lookup ("text" : Str) = some .local from by show List.lookup _ scope.names = _; rw [hn]; rfl]
      rfl
    have sV : SE Γ (mkC Eb) (eval (.Name "text" p3) (mkC Eb).env) (ev C (.var 0)).1 := se_var (C := C) gok cok' (X := ⟨scope, [("text" : Str)], dnames, consts⟩) ⟨rfl, rfl⟩ hslot
    have s1 := se_call gok cok' hC' (x := "tokens_of") (es := [.Name "text" p3]) (k := 9) (np := p2) (pos := p4) (by show List.lookup _ scope.names = _; rw [hn]; rfl) (by decide +kernel) (by rw [names_ok]; decide +kernel) (fun e he => by rw [List.mem_singleton.mp he]; rfl) (fun h => nomatch h) (fun pos => sl_cons rfl sV sl_nil)
    have s2 := se_call gok cok' hC' (x := "whole_expr") (es := [.Call (.Name "tokens_of" p2) [.Name "text" p3] [] p4]) (k := 41) (np := p1) (pos := p5) (by show List.lookup _ scope.names = _; rw [hn]; rfl) (by decide +kernel) (by rw [names_ok]; decide +kernel) (fun e he => by rw [List.mem_singleton.mp he]; rfl) (fun h => nomatch h) (fun pos => sl_cons rfl s1 sl_nil)
    have sx := sx_seq (sx_ret (pos := p6) s2) sx_nil
    have I' : Inv Γ (mkC Eb) h₁ [some (.str s)] [] news [] := by
      refine ⟨⟨_, F', fun j x d hx he => ?_⟩, N', S, Grow.refl⟩
      cases j with
      | zero =>
        cases hx
        cases he
        exact ⟨v, List.lookup_cons_self, rv⟩
      | succ j => cases hx
    rw [hAd]
    refine sx [some (.str s)] [] h₁ tk1 news [] Qb I' ?_
    unfold readP at hr
    have e : ∀ o, ((C 9 [.str s] []).bind fun r => C 41 [r.1] r.2) = o → PostF Γ (mkC Eb) news [] Qb (o.bind fun r => .ok (.ret r.1, [some (.str s)], r.2)) := by
      rintro o ho
      rw [ho] at hr
      cases o with
      | exc => exact ho
      | stuck => cases hr
      | ok r =>
        obtain ⟨w, σ'⟩ := r
        cases σ' with
        | cons _ _ => cases hr
        | nil =>
          dsimp only at hr
          split at hr
          · rename_i hnl
            cases hr
            intro fl h' tk' nw lw I2 rf gr
            cases rf with
            | ret rw' =>
              obtain ⟨⟨m2, F2, _⟩, N2, S2, G2⟩ := I2
              have hlw : lw = [] := List.eq_nil_of_length_eq_zero (by rw [S2.len]; rfl)
              subst hlw
              exact hok _ h' tk' nw m2 rw' F2 N2 gr
          · cases hr
    have e2 := e _ rfl
    cases h9 : C 9 [.str s] [] with
    | exc => rw [h9] at e2; change PostF _ _ _ _ _ (Out.bind (Out.bind (Out.bind (Out.bind (C 9 [.str s] []) _) _) _) _); rw [h9]; exact e2
    | stuck => rw [h9] at e2; exact e2.elim
    | ok r =>
      rw [h9] at e2
      change PostF _ _ _ _ _ (Out.bind (Out.bind (Out.bind (Out.bind (C 9 [.str s] []) _) _) _) _)
      rw [h9]
      change PostF _ _ _ _ _ (Out.bind (Out.bind (C 41 [r.1] r.2) _) _)
      change PostF _ _ _ _ _ (Out.bind (C 41 [r.1] r.2) _) at e2
      cases h41 : C 41 [r.1] r.2 with
      | exc => rw [h41] at e2; exact e2
      | stuck => rw [h41] at e2; exact e2.elim
      | ok q => rw [h41] at e2; exact e2
  have fin : ∀ v h' tk' nw lw, RepV Γ.base Γ.ta nw [] v pv → Grow news [] nw lw → Fr c.g c.L h' m → News c.g c.L h' nw → Q v (Γ.st h' tk') := by
    intro v h' tk' nw lw rw' gr Fc Nc
    have gr' : Grow news [] nw [] := ⟨fun p hp hn => ⟨(gr.keep p hp hn).1, fun h => nomatch h⟩, [], rfl⟩
    refine hq v h' tk' nw ⟨⟨m, Fc, fun j x d hx he => ?_⟩, Nc, ⟨rfl, List.Pairwise.nil, fun a h => (nomatch h), fun a h => (nomatch h), fun k a l h => by simp at h⟩, G.trans gr'⟩ rw' gr' fun m' Fm' => ?_
    · obtain ⟨w, hw, r⟩ := hm j x d hx he
      exact ⟨w, hw, r.mono gr'⟩
    · have : m' = m := by
        obtain ⟨o1, e1, p1, g1, d1, k1, f1⟩ := Fm'.ns
        obtain ⟨o2, e2, p2, g2, d2, k2, f2⟩ := F.ns
        rw [g1] at g2
        cases g2
        rw [d1] at d2
        cases d2
        funext x
        rw [← f1 x, ← f2 x]
      rw [this]; exact Fc
  refine wpAny_execs_cons (wpAny_Try_except (key _ _ _ PassesOwn.looking (fun e h' tk' cls nw lw g₂ m₀ hpv gr hf F₀ R U => ?_) (fun v h' tk' nw m' rw' F2 N2 gr => ?_)))
  · obtain ⟨i, hi, rfl⟩ := hf
    subst hpv
    have hi' : i = 0 ∨ i = 1 := by omega
    rcases hi' with rfl | rfl
    ·
      refine caughtO (prog := Γ.prog) (w := Γ.w) (s' := Γ.st h' tk') (np := p7) (pos := p10) (rest := []) R F₀ B' U gok.X gok.T D' hf77 C0 CB h0 (fun h'' g' T'' F'' N'' => ?_) DK.kind (by show List.lookup _ scope.names = _; rw [hn]; rfl) (by decide +kernel) PassesOwnAt.leaving
      refine wpAny_execs_cons (wpAny_Return_some (wpAny_Constant_none ?_))
      exact leaveS0_ (s' := Γ.st h'' tk') F'' N'' T'' fun Fc Nc => fin .none h'' tk' nw lw .none gr Fc Nc
    ·
      refine caughtO (prog := Γ.prog) (w := Γ.w) (s' := Γ.st h' tk') (np := p7) (pos := p10) (rest := []) R F₀ B' U gok.X gok.T D' hf77 C1 CB h1 (fun h'' g' T'' F'' N'' => ?_) DK.kind (by show List.lookup _ scope.names = _; rw [hn]; rfl) (by decide +kernel) PassesOwnAt.leaving
      refine wpAny_execs_cons (wpAny_Return_some (wpAny_Constant_none ?_))
      exact leaveS0_ (s' := Γ.st h'' tk') F'' N'' T'' fun Fc Nc => fin .none h'' tk' nw lw .none gr Fc Nc
  · exact leaveS0_ (s' := Γ.st h' tk') F2 N2 KtsTurn.refl fun Fc Nc => fin v h' tk' nw [] rw' gr Fc Nc
end
end Mine
namespace Mine
open PySem PySem.W PySem.Calls PyProof.Rows
theorem read_K (p : Params) : ReadK (KF p) 463 := by
  refine ⟨_, _, _, _, _, _, _, _, _, _, _, _, _, _, _, ⟨⟨_, _, _, _, _, _, _, _, _, _, _, rfl, fun vs h => ?_⟩, by kernel_rfl, rfl, rfl, rfl, by decide, by decide +kernel⟩, rfl⟩
  rcases vs with _ | ⟨a, _ | ⟨b, r⟩⟩
  · cases h
  · rfl
  · cases h
section
variable {Γ : GC} {c : FC}
theorem ints_rep {base : Heap} {ta : Nat → Option Addr} {news : List (Addr × Obj)} {ls : List Addr} : ∀ {vs : List Value} {ns : List Int}, IntsAre vs ns → RepA base ta news ls vs (ns.map PV.int)
  | _, _, .nil => .nil
  | _, _, .cons n t r => .cons (.int n t) (ints_rep r)
/-- live lists are forgotten -/
theorem Inv.forget {h : Heap} {env : Env'} {σ : Store} {news : List (Addr × Obj)} {ls : List Addr} (I : Inv Γ c h env σ news ls) (h0 : c.ls₀ = []) (he : ∀ k d, env.getD k none = some d → noLoc d = true) : Inv Γ c h env [] news [] := by
  obtain ⟨⟨m, F, hm⟩, N, S, G⟩ := I
  refine ⟨⟨m, F, fun k x d hx hd => ?_⟩, N, ⟨rfl, List.Pairwise.nil, fun a h => (nomatch h), fun a h => (nomatch h), fun k a l h => by simp at h⟩, ?_⟩
  · obtain ⟨v, hv, r⟩ := hm k x d hx hd
    exact ⟨v, hv, RepV.less (ls := []) (fun a h => nomatch h) r (he k d hd)⟩
  · rw [h0] at G ⊢
    exact ⟨fun p hp hn => ⟨(G.keep p hp hn).1, fun h => nomatch h⟩, [], rfl⟩
theorem slot_at {x : Str} {k : Nat} (hx : c.nm.findIdx? (· == x) = some k) (hl : c.cs.names.lookup x = some .local) (hd : (x == ("__debug__" : Str)) = false) : slot ⟨c.cs, c.nm, dnames, consts⟩ x = some k := by
  unfold slot
  rw [show (CX.mk c.cs c.nm dnames consts).nm.findIdx? (· == x) = some k from hx]
  dsimp only
  obtain ⟨hlt, he, _⟩ := List.findIdx?_eq_some_iff_getElem.mp hx
  rw [hl, hd, List.getElem?_eq_getElem hlt, beq_iff_eq.mp he]
  simp
def envT (t : PV) : Env' := [none, some t, none, none, none]
theorem sx_tree (gok : Γ.Ok) (cok : c.Ok Γ) {C : Nat → List PV → Store → Out (PV × Store)} (hC : CallOk Γ c C) (hls : c.ls₀ = []) (hnm : c.nm = [("script" : Str), "tree", "text", "begun", "end"]) (hl1 : c.cs.names.lookup ("script" : Str) = some .local) (hl2 : c.cs.names.lookup ("tree" : Str) = some .local) (hl3 : c.cs.names.lookup ("_law_tree" : Str) = some .globalImplicit)
    {l : Addr} {vs : List Value} {zs : List Int} (hI : IntsAre vs zs) (hlen : zs.length ≤ 1000) {a1 a2 a3 a4 a5 a6 a7 a8 a9 a10 a11 : Pos} {k1 k2 k3 : Nat} {m : Str → Option Value} {h : Heap} {tk : Nat} {t : PV} {σ1 : Store}
    (I : Inv Γ c h [none, none, none, none, none] [] [] []) (F : Fr c.g c.L h m) (hm : m "script" = some (.ref l)) (hl : h.IsList l vs.toArray) (hr : C 51 [.loc 0, .int 3] [[.list ((zs.take 40).map PV.int), .int 0]] = .ok (t, σ1)) (hn : noLoc t = true) {Q : Flow → Shared → Prop}
    (hq : ∀ h' tk' news', Inv Γ c h' (envT t) [] news' [] → Q .next (Γ.st h' tk')) :
    wpAny (model Γ.prog Γ.w) c.A (exec (.Assign [.Name "tree" a1] (.Call (.Name "_law_tree" a2) [.List [.Subscript (.Name "script" a3) (.Slice none (some (.Constant (.int 40) k1 a4)) none a5) a6, .Constant (.int 0) k2 a7] a8, .Constant (.int 3) k3 a9] [] a10) a11) c.env) Q c.E (Γ.st h tk) := by
  have hX := gok.X.keeps cok.B.stays
  have hT := gok.T.keeps cok.B.stays
  have hsz : sizeLine = 16777216 := sizeLine_eq
  have hvl : vs.length = zs.length := hI.length
  refine wpAny_Assign_Name (Call_ (name_Kx (s := Γ.st h tk) F hX (topRead_of hT) (gok.defs _ 51 (by rw [names_ok]; decide +kernel)) ?_ cok.kind hl3 (by decide +kernel))) rfl
  refine callWith_K hX (gok.defk "_law_tree" 51 (by rw [names_ok]; decide +kernel)) (args_cons (he := rfl) (List_ (args_cons (he := rfl) ?_))) rfl rfl
  refine wpAny_Subscript_list_slice (ldx (s := Γ.st h tk) F hm (evalPart_none_step ?_) cok.kind hl1 (by decide +kernel))
  show wpAny _ _ (eval (.Constant (.int 40) k1 a4) c.env) _ _ _
  refine wpAny_Constant_int ⟨l, vs.toArray, none, some 40, rfl, hl, by rw [hsz, List.size_toArray]; omega, .none, .int _ _, ?_⟩
  rw [show slicePick vs.toArray none (some 40) none = (vs.take 40).toArray from by simpa using PySem.slicePick_upto' vs.toArray 40]
  obtain ⟨I1, g1, _⟩ := I.push { cls := .type "slice", data := .fields #[.none, .int 40 (Γ.st h tk).toks, .none] }
  obtain ⟨I2, g2, o2⟩ := I1.push (lstO (vs.take 40) 0)
  rw [Heap.size_push] at I2 g2
  have r2 : RepV Γ.base Γ.ta ((h.objs.size + 1, lstO (vs.take 40) 0) :: [(h.objs.size, { cls := .type "slice", data := .fields #[.none, .int 40 (Γ.st h tk).toks, .none] })]) [] (.ref (h.objs.size + 1)) (.list ((zs.take 40).map PV.int)) :=
    .list (vs := vs.take 40) (n := 0) (.inl ⟨.head _, fun q => nomatch q⟩) (ints_rep (hI.take 40))
  refine args_cons (he := rfl) (wpAny_Constant_int (args_nil ?_))
  have hlen2 : (2 : Nat) ≤ szL := by decide
  obtain ⟨I3, g3⟩ := I2.pushL gok cok (vs := [.ref (h.objs.size + 1), .int 0 ((Γ.st h tk).toks + 1)]) (l := [.list ((zs.take 40).map PV.int), .int 0]) (.cons r2 (.cons (.int _ _) .nil)) (by show 2 ≤ szL; exact hlen2)
  refine wpAny_newObj_type ?_ (by show (2 : Nat) ≤ sizeLine; rw [hsz]; decide)
  refine args_cons (he := rfl) (wpAny_Constant_int (args_nil ?_))
  obtain ⟨⟨m3, F3, _⟩, N3, S3, G3⟩ := id I3
  refine ⟨hX.keeps F3.keep, ?_⟩
  refine hC 51 [.loc 0, .int 3] _ [[.list ((zs.take 40).map PV.int), .int 0]] _ _ _ _ _ _ I3 (.cons (.loc rfl) (.cons (.int _ _) .nil)) ?_
  rw [hr]
  intro v h' tk' news' ls' I4 r4 g4 _
  refine store_ok cok (X := ⟨c.cs, c.nm, dnames, consts⟩) rfl rfl (slot_at (k := 1) (by rw [hnm]; decide +kernel) hl2 (by decide +kernel)) I4 r4 fun h'' tk'' I5 => ?_
  refine hq h'' tk'' news' (I5.forget hls fun k d hd => ?_)
  match k, hd with
  | 0, hd => cases hd
  | 1, hd => cases hd; exact hn
  | 2, hd => cases hd
  | 3, hd => cases hd
  | 4, hd => cases hd
  | k + 5, hd => cases hd
structure RdOk (Γ : GC) (c : FC) (C : Nat → List PV → Store → Out (PV × Store)) : Prop where
  rk : ReadK Γ.KF (Γ.fa 53)
  cells : c.cells = []
  out : c.outer = []
  own : ∃ Cb bm0 bm1 bmb, nsIn Γ.KF mainGlobals "F77Error" = some (some (.ref Cb)) ∧ ClsK Γ.KF (Γ.ca 0) bm0 ∧ ClsK Γ.KF (Γ.ca 1) bm1 ∧ ClsK Γ.KF Cb bmb ∧ bm0.contains (.ref Cb) = true ∧ bm1.contains (.ref Cb) = true
  dp : c.dp + 12 < recursionLimit
  un : c.un + 104 < cLine
  hC : ∀ c' : FC, c'.Ok Γ → c'.dp = c.dp + 1 → c'.un = c.un + 3 → CallOk Γ c' C
def tells (op : CmpOp) (r t : PV) : Bool := match op with
  | .Eq => PyData.eqv (toD r) (toD t)
  | _ => !PyData.eqv (toD r) (toD t)
theorem test_read (gok : Γ.Ok) (cok : c.Ok Γ) {C : Nat → List PV → Store → Out (PV × Store)} (rd : RdOk Γ c C) (hnm : c.nm = [("script" : Str), "tree", "text", "begun", "end"]) (hl2 : c.cs.names.lookup ("tree" : Str) = some .local) (hl3 : c.cs.names.lookup ("_law_read" : Str) = some .globalImplicit)
    {op : CmpOp} (hop : op = .Eq ∨ op = .NotEq) {e : Expr} {f : EV} {p1 p2 p3 p4 : Pos} {whole : Sem Value} {env : Env'} {s : List Nat} {r t : PV} {h : Heap} {tk : Nat} {news : List (Addr × Obj)} {Q : Bool → Shared → Prop}
    (he : SE Γ c (eval e c.env) f) (hs : isStar e = false) (hf : f env [] = .ok (.str s, [])) (hr : readP C s = some r) (ht : env.getD 1 none = some t) (pr : plainP r = true) (pt : plainP t = true) (hdep : (toD t).depth ≤ 64)
    (I : Inv Γ c h env [] news []) (hq : ∀ h' tk' news', Inv Γ c h' env [] news' [] → Grow news [] news' [] → Q (tells op r t) (Γ.st h' tk')) :
    wpAny (model Γ.prog Γ.w) c.A (isTrue (.Compare (.Call (.Name "_law_read" p1) [e] [] p2) [op] [.Name "tree" p3] p4) c.env whole) Q c.E (Γ.st h tk) := by
  obtain ⟨Cb, bm0, bm1, bmb, hf77, C0, C1, CB, h0, h1⟩ := rd.own
  have hX := gok.X.keeps cok.B.stays
  have hT := gok.T.keeps cok.B.stays
  obtain ⟨⟨m, F, hm⟩, N, S, G⟩ := id I
  refine wpAny_isTrue_Compare1 (hm := rfl) (Call_ (name_Kx (s := Γ.st h tk) F hX (topRead_of hT) (gok.defs _ 53 (by rw [names_ok]; decide +kernel)) ?_ cok.kind hl3 (by decide +kernel)))
  refine callWith_K hX (gok.defk "_law_read" 53 (by rw [names_ok]; decide +kernel)) (args_cons (he := star_cons hs) ?_) (star_cons hs) rfl
  refine he env [] h tk news [] _ I ?_
  rw [hf]
  intro v h1' tk1 n1 l1 I1 r1 g1
  have hl1 : l1 = [] := List.eq_nil_of_length_eq_zero (by rw [I1.S.len]; rfl)
  subst hl1
  obtain ⟨⟨m1, F1, _⟩, _, _, _⟩ := id I1
  refine args_nil ⟨hX.keeps F1.keep, ?_⟩
  refine call_read gok cok rd.rk rd.cells rd.out hf77 C0 C1 CB h0 h1 rd.dp rd.un rd.hC I1 r1 hr fun v2 h2 tk2 n2 I2 r2 g2 _ => ?_
  have hsl := slot_at (c := c) (x := "tree") (k := 1) (by rw [hnm]; decide +kernel) hl2 (by decide +kernel)
  refine se_var (C := C) gok cok (X := ⟨c.cs, c.nm, dnames, consts⟩) ⟨rfl, rfl⟩ hsl env [] h2 tk2 n2 [] _ I2 ?_
  simp only [ev, wV, ht, liftO]
  intro v3 h3 tk3 n3 l3 I3 r3 g3
  have hl3' : l3 = [] := List.eq_nil_of_length_eq_zero (by rw [I3.S.len]; rfl)
  subst hl3'
  have hg := I3.get gok cok
  obtain ⟨as, ra⟩ := reads_of hg (r2.mono g3) pr
  obtain ⟨bs, rb⟩ := reads_of hg r3 pt
  have hroom := cok.room
  have hu : c.A.units + min (toD r).depth (toD t).depth < cLine := by
    have := Nat.min_le_right (toD r).depth (toD t).depth
    show c.un + _ < _
    omega
  rcases hop with rfl | rfl
  · exact SeqAt.compareEq_reads (s := Γ.st h3 tk3) ra rb (lay_of (r2.mono g3) pr) (lay_of r3 pt) hu (wpAny_truthy_bool (hq h3 tk3 n3 I3 ((g1.trans g2).trans g3)))
  · exact SeqAt.compareNe_reads (s := Γ.st h3 tk3) ra rb (lay_of (r2.mono g3) pr) (lay_of r3 pt) hu (wpAny_truthy_bool (hq h3 tk3 n3 I3 ((g1.trans g2).trans g3)))
def minus (s : List Nat) (b e : Nat) : List Nat := s.take b ++ (s.take e).drop (b + 1) ++ s.drop (e + 1)
theorem se_none : SE Γ c (evalPart none c.env) (fun _ σ => .ok (.none, σ)) := fun env σ h tk news ls Q I hp => evalPart_none_step (hp _ _ _ _ _ I .none Grow.refl)
theorem se_minus (gok : Γ.Ok) (cok : c.Ok Γ) (hnm : c.nm = [("script" : Str), "tree", "text", "begun", "end"]) (hl3 : c.cs.names.lookup ("text" : Str) = some .local) (hl4 : c.cs.names.lookup ("begun" : Str) = some .local) (hl5 : c.cs.names.lookup ("end" : Str) = some .local)
    {p1 p2 p3 p4 p5 p6 p7 p8 p9 p10 p11 p12 p13 p14 p15 p16 p17 p18 p19 : Pos} {k1 k2 : Nat} : ∃ f : EV, SE Γ c (eval (.BinOp (.BinOp (.Subscript (.Name "text" p1) (.Slice none (some (.Name "begun" p2)) none p3) p4) .Add (.Subscript (.Name "text" p5) (.Slice (some (.BinOp (.Name "begun" p6) .Add (.Constant (.int 1) k1 p7) p8)) (some (.Name "end" p9)) none p10) p11) p12) .Add
      (.Subscript (.Name "text" p13) (.Slice (some (.BinOp (.Name "end" p14) .Add (.Constant (.int 1) k2 p15) p16)) none none p17) p18) p19) c.env) f ∧
      ∀ (env : Env') (s : List Nat) (b e : Nat), env.getD 2 none = some (.str s) → env.getD 3 none = some (.int b) → env.getD 4 none = some (.int e) → b < e → e < s.length → s.length ≤ 1000000 → f env [] = .ok (.str (minus s b e), []) := by
  have sT : ∀ p, SE Γ c (eval (.Name "text" p) c.env) (ev (fun _ _ _ => .stuck) (.var 2)).1 := fun p => se_var gok cok (X := ⟨c.cs, c.nm, dnames, consts⟩) ⟨rfl, rfl⟩ (slot_at (c := c) (x := "text") (k := 2) (by rw [hnm]; decide +kernel) hl3 (by decide +kernel))
  have sB : ∀ p, SE Γ c (eval (.Name "begun" p) c.env) (ev (fun _ _ _ => .stuck) (.var 3)).1 := fun p => se_var gok cok (X := ⟨c.cs, c.nm, dnames, consts⟩) ⟨rfl, rfl⟩ (slot_at (c := c) (x := "begun") (k := 3) (by rw [hnm]; decide +kernel) hl4 (by decide +kernel))
  have sE : ∀ p, SE Γ c (eval (.Name "end" p) c.env) (ev (fun _ _ _ => .stuck) (.var 4)).1 := fun p => se_var gok cok (X := ⟨c.cs, c.nm, dnames, consts⟩) ⟨rfl, rfl⟩ (slot_at (c := c) (x := "end") (k := 4) (by rw [hnm]; decide +kernel) hl5 (by decide +kernel))
  have s1 : ∀ k p, SE Γ c (eval (.Constant (.int 1) k p) c.env) (ev (fun _ _ _ => .stuck) (.cst (.int 1))).1 := fun k p => se_cst_int
  have c1 := se_cut gok cok (p := p3) (pos := p4) (lo := none) (hi := some (.Name "begun" p2)) (sT p1) se_none (sB p2)
  have c2 := se_cut gok cok (p := p10) (pos := p11) (lo := some (.BinOp (.Name "begun" p6) .Add (.Constant (.int 1) k1 p7) p8)) (hi := some (.Name "end" p9)) (sT p5) (se_bin gok cok (pos := p8) (o := .add) rfl (sB p6) (s1 k1 p7)) (sE p9)
  have c3 := se_cut gok cok (p := p17) (pos := p18) (lo := some (.BinOp (.Name "end" p14) .Add (.Constant (.int 1) k2 p15) p16)) (hi := none) (sT p13) (se_bin gok cok (pos := p16) (o := .add) rfl (sE p14) (s1 k2 p15)) se_none
  refine ⟨_, se_bin gok cok (o := .add) rfl (se_bin gok cok (o := .add) rfl c1 c2) c3, fun env s b e h2 h3 h4 hbe hel hlen => ?_⟩
  have hsl : s.length ≤ szL := by show s.length ≤ 16777216; omega
  have b1 : bnd (b : Int) s.length = b := by unfold bnd; rw [if_pos (by omega)]; simp; omega
  have b2 : bnd ((b : Int) + 1) s.length = b + 1 := by unfold bnd; rw [if_pos (by omega)]; omega
  have e1 : bnd (e : Int) s.length = e := by unfold bnd; rw [if_pos (by omega)]; simp; omega
  have e2 : bnd ((e : Int) + 1) s.length = e + 1 := by unfold bnd; rw [if_pos (by omega)]; omega
  simp only [ev, wV, h2, h3, h4, liftO, Out.bind, binP, cutP, hsl, if_true, boundP, Option.bind_some, Option.map_some, lowOf, highOf, b1, b2, e1, e2, cutL]
  rw [if_pos (by simp; show _ ≤ 16777216; omega)]
  simp only [liftO, Out.bind]
  rw [if_pos (by simp; show _ ≤ 16777216; omega)]
  simp only [minus, List.take_length, List.drop_zero]
end
end Mine
namespace Mine
open PySem PySem.W PySem.Calls PyProof.Rows
section
variable {Γ : GC} {c : FC}
abbrev itO (D : Addr) (i : Nat) : Obj := { cls := .type "list_iterator", data := .fields #[.ref D, .int i 0] }
/-- an entry of the ledger that no value shows is dropped -/
theorem Inv.drop {h : Heap} {env : Env'} {news : List (Addr × Obj)} {it : Addr} {o : Obj} (I : Inv Γ c h env [] news []) (hm : (it, o) ∈ news) (hs : ¬ SeqLike o) (h0 : c.news₀ = []) (hl0 : c.ls₀ = []) :
    Inv Γ c h env [] (news.filter fun p => p.1 != it) [] ∧ ∀ v d, RepV Γ.base Γ.ta news [] v d → RepV Γ.base Γ.ta (news.filter fun p => p.1 != it) [] v d := by
  obtain ⟨⟨m, F, hmm⟩, N, S, G⟩ := I
  have hsub : ∀ a ob, SeqLike ob → (a, ob) ∈ news → (a, ob) ∈ news.filter fun p => p.1 != it := by
    intro a ob hq hp
    refine List.mem_filter.mpr ⟨hp, ?_⟩
    simp only [bne_iff_ne, ne_eq]
    intro e
    subst e
    have e1 := (N _ hp).1
    have e2 := (N _ hm).1
    rw [e1] at e2
    have e3 : ob = o := Option.some.inj e2
    exact hs (e3 ▸ hq)
  refine ⟨⟨⟨m, F, fun k x d hx hd => ?_⟩, fun p hp => N p (List.mem_filter.mp hp).1, ⟨rfl, List.Pairwise.nil, fun a h => (nomatch h), fun a h => (nomatch h), fun k a l h => by simp at h⟩, ?_⟩, fun v d r => r.sub hsub⟩
  · obtain ⟨v, hv, r⟩ := hmm k x d hx hd
    exact ⟨v, hv, r.sub hsub⟩
  · rw [h0, hl0]
    exact ⟨fun p hp => (nomatch hp), [], rfl⟩
theorem itO_not (D : Addr) (i : Nat) : ¬ SeqLike (itO D i) := by
  rintro ⟨vs, n, h | h⟩
  · have := congrArg (fun o : Obj => o.data) h; cases this
  · have := congrArg (fun o : Obj => o.data) h; cases this
theorem fields_not {o : Obj} {v : Array Value} (h : o.data = .fields v) : ¬ SeqLike o := by
  rintro ⟨vs, n, q | q⟩
  · rw [q] at h; cases h
  · rw [q] at h; cases h
/-- the frame over a heap where one fresh address has turned -/
theorem Inv.but {h h' : Heap} {env : Env'} {news : List (Addr × Obj)} {it : Addr} (I : Inv Γ c h env [] news []) (hb : But it h h') (hg : c.g.get? it = none) (hL : c.L ≠ it) (hn : ∀ p ∈ news, p.1 ≠ it) : Inv Γ c h' env [] news [] := by
  obtain ⟨⟨m, F, hmm⟩, N, S, G⟩ := I
  exact ⟨⟨m, hb.fr F hg hL, hmm⟩, hb.news N hn, S, G⟩
theorem Inv.with {h : Heap} {env : Env'} {news : List (Addr × Obj)} {it : Addr} {o : Obj} (I : Inv Γ c h env [] news []) (ho : h.get? it = some o) (hg : c.g.get? it = none) (hL : c.L ≠ it) : Inv Γ c h env [] ((it, o) :: news) [] ∧ Grow news [] ((it, o) :: news) [] := by
  have g : Grow news [] ((it, o) :: news) [] := ⟨fun p hp hn => ⟨.tail _ hp, hn⟩, [], rfl⟩
  obtain ⟨⟨m, F, hmm⟩, N, S, G⟩ := I
  refine ⟨⟨⟨m, F, fun k x d hx hd => ?_⟩, fun p hp => ?_, S.sub fun a o _ h => .tail _ h, G.trans g⟩, g⟩
  · obtain ⟨v, hv, r⟩ := hmm k x d hx hd
    exact ⟨v, hv, r.mono g⟩
  · rcases List.mem_cons.mp hp with rfl | hp
    · exact ⟨ho, Ne.symm hL, hg⟩
    · exact N p hp
def pairsV (prs : List (Nat × Nat)) : List PV := prs.map fun p => .tup [.int p.1, .int p.2]
def env3 (t : PV) (s : List Nat) (a b : Option PV) : Env' := [none, some t, some (.str s), a, b]
theorem sx_pairs (gok : Γ.Ok) (cok : c.Ok Γ) {C : Nat → List PV → Store → Out (PV × Store)} (rd : RdOk Γ c C) (hC : CallOk Γ c C) (hn0 : c.news₀ = []) (hls : c.ls₀ = []) (hnm : c.nm = [("script" : Str), "tree", "text", "begun", "end"])
    (hl2 : c.cs.names.lookup ("tree" : Str) = some .local) (hl3 : c.cs.names.lookup ("text" : Str) = some .local) (hl4 : c.cs.names.lookup ("begun" : Str) = some .local) (hl5 : c.cs.names.lookup ("end" : Str) = some .local) (hl6 : c.cs.names.lookup ("_law_read" : Str) = some .globalImplicit) (hl7 : c.cs.names.lookup ("_law_pairs" : Str) = some .globalImplicit)
    {b1 b2 b3 b4 b5 b6 b7 d1 d2 d3 d4 d5 d6 d7 : Pos} {kk kc : Nat} {e : Expr} {f : EV} (he : SE Γ c (eval e c.env) f) (hes : isStar e = false)
    {t : PV} {s : List Nat} {prs : List (Nat × Nat)} {h : Heap} {tk : Nat} {news : List (Addr × Obj)} {Q : Flow → Shared → Prop}
    (hpr : C 52 [.str s] [] = .ok (.list (pairsV prs), [])) (hsmall : prs.length ≤ 1000000) (pt : plainP t = true) (hdep : (toD t).depth ≤ 64)
    (hall : ∀ p ∈ prs, ∃ r s', f (env3 t s (some (.int p.1)) (some (.int p.2))) [] = .ok (.str s', []) ∧ readP C s' = some r ∧ plainP r = true ∧ PyData.eqv (toD r) (toD t) = false)
    (I : Inv Γ c h (env3 t s none none) [] news []) (hq : ∀ h' tk' env' news', Inv Γ c h' env' [] news' [] → Q .next (Γ.st h' tk')) :
    wpAny (model Γ.prog Γ.w) c.A (exec (.For (.Tuple [.Name "begun" b1, .Name "end" b2] kk b3) (.Call (.Name "_law_pairs" b4) [.Name "text" b5] [] b6)
      [.If (.Compare (.Call (.Name "_law_read" d1) [e] [] d2) [.Eq] [.Name "tree" d3] d4) [.Return (some (.Constant (.bool false) kc d5)) d6] [] d7] [] b7) c.env) Q c.E (Γ.st h tk) := by
  have hX := gok.X.keeps cok.B.stays
  have hT := gok.T.keeps cok.B.stays
  obtain ⟨⟨m, F, hm⟩, N, S, G⟩ := id I
  have sT : SE Γ c (eval (.Name "text" b5) c.env) (ev C (.var 2)).1 := se_var gok cok (X := ⟨c.cs, c.nm, dnames, consts⟩) ⟨rfl, rfl⟩ (slot_at (c := c) (x := "text") (k := 2) (by rw [hnm]; decide +kernel) hl3 (by decide +kernel))
  have sP := se_call gok cok hC (x := "_law_pairs") (es := [.Name "text" b5]) (k := 52) (np := b4) (pos := b6) hl7 (by decide +kernel) (by rw [names_ok]; decide +kernel) (fun e he => by rw [List.mem_singleton.mp he]; rfl) (fun h => nomatch h) (fun pos => sl_cons rfl sT sl_nil)
  refine wpAny_For (sP _ [] h tk news [] _ I ?_) (fun _ => rfl)
  change Post _ _ _ _ _ _ _ (C 52 [.str s] [])
  rw [hpr]
  intro v h1 tk1 n1 l1 I1 r1 g1
  have hl1 : l1 = [] := List.eq_nil_of_length_eq_zero (by rw [I1.S.len]; rfl)
  subst hl1
  cases r1 with
  | @list D vs nD ds hat ra =>
    have hD : (Γ.st h1 tk1).heap.IsList D vs.toArray := ⟨_, I1.get gok cok _ _ hat, rfl, nD, rfl⟩
    have hvl := ra.length
    have hlp : (pairsV prs).length = prs.length := by simp [pairsV]
    refine wpAny_pyIter_list hD ?_
    have hitn : h1.get? h1.objs.size = none := Heap.get?_none_of_le (Nat.le_refl _)
    obtain ⟨⟨m1, F1, _⟩, N1, S1, G1⟩ := id I1
    have hg0 : c.g.get? h1.objs.size = none := by
      cases q : c.g.get? h1.objs.size with
      | none => rfl
      | some o => rw [F1.keep _ _ q] at hitn; cases hitn
    have hL0 : c.L ≠ h1.objs.size := by
      obtain ⟨oL, _, _, hL, _⟩ := F1.ns
      exact Nat.ne_of_lt (Heap.lt_size hL)
    have hDne : D ≠ h1.objs.size := by
      obtain ⟨o, ho, _⟩ := hD
      exact Nat.ne_of_lt (Heap.lt_size ho)
    refine codeAny_forLoop_any (fun n s' => ∃ i h' tk' a b nw, s' = Γ.st h' tk' ∧ i ≤ prs.length ∧ n = prs.length + 1 - i ∧ Inv Γ c h' (env3 t s a b) [] nw [] ∧ (∀ p ∈ nw, p.1 ≠ h1.objs.size) ∧ h'.IsListIter h1.objs.size D i ∧ At Γ.base nw [] D (lstO vs nD) ∧ RepA Γ.base Γ.ta nw [] vs (pairsV prs)) ?_ (prs.length + 1)
      ⟨0, _, tk1, none, none, n1, rfl, Nat.zero_le _, rfl, I1.keeps (fun b o q => Heap.get?_push_of_some _ q), fun p hp e => ?_, ⟨_, Heap.get?_push_size _ rfl, rfl, rfl⟩, hat, ra⟩
    · rintro n s' ⟨i, h2, tk2, a, b, nw, rfl, hi, rfl, I2, hnw, hit, hat2, ra2⟩
      have hD2 : (Γ.st h2 tk2).heap.IsList D vs.toArray := ⟨_, I2.get gok cok _ _ hat2, rfl, nD, rfl⟩
      have hIt : (Γ.st h2 tk2).heap.IsListIter h1.objs.size D i := hit
      by_cases hlt : i < prs.length
      · have hvi : i < vs.length := by omega
        have hpi : (pairsV prs)[i]? = some (.tup [.int (prs[i]).1, .int (prs[i]).2]) := by
          unfold pairsV
          rw [List.getElem?_map, List.getElem?_eq_getElem hlt]; rfl
        obtain ⟨vt, hvt, rt⟩ := ra2.get hpi
        have hvt' : vs.toArray[i]? = some vt := by simpa using hvt
        refine wpAny_pyNext_list_item hIt hD2 hvt' fun h3 hit3 hs3 => ?_
        have hb3 : But h1.objs.size h2 h3 := fun b' o hb' q => (hs3.2 b' hb').trans q
        have I3 := I2.but hb3 hg0 hL0 hnw
        obtain ⟨o3, ho3, hc3, hd3⟩ := hit3
        cases rt with
        | @tup T ts nT dsT hatT raT =>
          refine wpAny_letOwnedTupleGo_listiter ⟨o3, ho3, hc3, hd3⟩ ?_
          obtain ⟨I4, g4⟩ := I3.with ho3 hg0 hL0
          have hTt : IsTup (Γ.st h3 tk2).heap T ts.toArray := ⟨_, I4.get gok cok _ _ (hatT.mono g4), rfl, nT, rfl⟩
          have hks : cSlots ⟨c.cs, c.nm, dnames, consts⟩ [.Name "begun" b1, .Name "end" b2] = some [3, 4] := by
            have q1 := slot_at (c := c) (x := "begun") (k := 3) (by rw [hnm]; decide +kernel) hl4 (by decide +kernel)
            have q2 := slot_at (c := c) (x := "end") (k := 4) (by rw [hnm]; decide +kernel) hl5 (by decide +kernel)
            simp only [cSlots, q1, q2, Option.bind_some, Option.map_some]
          have hset : setAll [3, 4] [.int (prs[i]).1, .int (prs[i]).2] (env3 t s a b) = some (env3 t s (some (.int (prs[i]).1)) (some (.int (prs[i]).2))) := rfl
          obtain ⟨hln, hst⟩ := slots_each (env := c.env) hks
          have htl := raT.length
          refine assign_Tuple_tuple rfl hTt (by rw [hln, List.size_toArray, htl]; rfl) hst fun h5 he5 => ?_
          refine wpAny_passesOwn cok.hE (inOrder_ok (tk := tk2) cok (X := ⟨c.cs, c.nm, dnames, consts⟩) rfl rfl hks (I4.ext cok he5) (RepA.mono g4 raT) hset fun h6 tk6 I6 => ?_)
          obtain ⟨r, s', hf, hr, pr, hne⟩ := hall _ (List.getElem_mem hlt)
          refine wpAny_passesOwn cok.hE (wpAny_execs_cons (wpAny_If (test_read gok cok rd hnm hl2 hl6 (.inl rfl) he hes hf hr rfl pr pt hdep I6 fun h7 tk7 n7 I7 g7 => ?_)))
          rw [show tells .Eq r t = false from hne]
          simp only [Bool.false_eq_true, if_false]
          refine wpAny_execs_nil (wpAny_execs_nil ?_)
          have hm7 := (g7.keep _ (.head _) (fun h => nomatch h)).1
          obtain ⟨I8, keep8⟩ := I7.drop hm7 (fields_not hd3) hn0 hls
          have rD : RepV Γ.base Γ.ta n7 [] (.ref D) (.list (pairsV prs)) := RepV.mono g7 (RepV.mono g4 (.list hat2 ra2))
          have hat8 : At Γ.base (n7.filter fun p => p.1 != h1.objs.size) [] D (lstO vs nD) := by
            rcases hat2 with ⟨q1, q2⟩ | q
            · refine .inl ⟨List.mem_filter.mpr ⟨(g7.keep _ (.tail _ q1) (fun h => nomatch h)).1, ?_⟩, fun h => nomatch h⟩
              simp only [bne_iff_ne, ne_eq]
              exact hDne
            · exact .inr q
          have ra8 : RepA Γ.base Γ.ta (n7.filter fun p => p.1 != h1.objs.size) [] vs (pairsV prs) := by
            have ra7 := RepA.mono g7 (RepA.mono g4 ra2)
            clear hall hset hpi
            generalize pairsV prs = ds at ra7
            clear hD hvl hvi hvt hvt' hD2 hat hat2 hat8 ra ra2 rD
            induction vs generalizing ds with
            | nil => cases ra7; exact .nil
            | cons w ws ih => cases ra7 with | cons hd tl => exact .cons (keep8 _ _ hd) (ih _ tl)
          refine ⟨prs.length + 1 - (i + 1), by omega, i + 1, h7, tk7, _, _, _, rfl, hlt, rfl, I8, fun p hp q => ?_, ⟨o3, (I7.N _ hm7).1, hc3, hd3⟩, hat8, ra8⟩
          have h9 := (List.mem_filter.mp hp).2
          rw [q] at h9
          exact bne_iff_ne.mp h9 rfl
      · have hie : i = prs.length := Nat.le_antisymm hi (Nat.not_lt.mp hlt)
        refine wpAny_pyNext_list_end rfl hIt hD2 (by rw [List.getElem?_toArray, List.getElem?_eq_none]; omega) fun h3 hx => ?_
        refine wpAny_execs_nil ?_
        have hb : But h1.objs.size h2 h3 := fun b' o hb' q => hx b' o hb' q
        exact hq h3 tk2 _ nw (I2.but hb hg0 hL0 hnw)
    · have := (I1.N p hp).1
      rw [e, hitn] at this
      cases this
/-- what the plain law must give -/
structure LawFacts (C : Nat → List PV → Store → Out (PV × Store)) (zs : List Int) : Prop where
  facts : ∃ (t r : PV) (s : List Nat) (prs : List (Nat × Nat)) (σ1 : Store), C 51 [.loc 0, .int 3] [[.list ((zs.take 40).map PV.int), .int 0]] = .ok (t, σ1) ∧ noLoc t = true ∧ plainP t = true ∧ (toD t).depth ≤ 64 ∧
    C 20 [t] [] = .ok (.str s, []) ∧ readP C s = some r ∧ plainP r = true ∧ PyData.eqv (toD r) (toD t) = true ∧
    C 52 [.str s] [] = .ok (.list (pairsV prs), []) ∧ prs.length ≤ 1000000 ∧ s.length ≤ 1000000 ∧
    ∀ p ∈ prs, p.1 < p.2 ∧ p.2 < s.length ∧ ∃ r, readP C (minus s p.1 p.2) = some r ∧ plainP r = true ∧ PyData.eqv (toD r) (toD t) = false
theorem law_run (gok : Γ.Ok) (cok : c.Ok Γ) {C : Nat → List PV → Store → Out (PV × Store)} (rd : RdOk Γ c C) (hC : CallOk Γ c C) (hn0 : c.news₀ = []) (hls : c.ls₀ = []) (hnm : c.nm = [("script" : Str), "tree", "text", "begun", "end"])
    (hcs : c.cs.names = [(("script" : Str), .local), ("tree", .local), ("text", .local), ("begun", .local), ("end", .local), ("_law_tree", .globalImplicit), ("list_expr", .globalImplicit), ("_law_read", .globalImplicit), ("_law_pairs", .globalImplicit)])
    {l : Addr} {vs : List Value} {zs : List Int} (hI : IntsAre vs zs) (hlen : zs.length ≤ 1000) (LF : LawFacts C zs) {m : Str → Option Value} {h : Heap} {tk : Nat} (I : Inv Γ c h [none, none, none, none, none] [] [] []) (F : Fr c.g c.L h m) (hm : m "script" = some (.ref l)) (hl : h.IsList l vs.toArray)
    {a1 a2 a3 a4 a5 a6 a7 a8 a9 a10 a11 b1 b2 b3 b4 b5 d1 d2 d3 d4 d5 d6 d7 e1 e2 e3 e4 e5 e6 e7 f1 f2 f3 f4 f5 f6 f7 p1 p2 p3 p4 p5 p6 p7 p8 p9 p10 p11 p12 p13 p14 p15 p16 p17 p18 p19 g1 g2 g3 : Pos} {k1 k2 k3 k4 k5 k6 k7 k8 k9 : Nat} {Q : Flow → Shared → Prop}
    (hq : ∀ h' tk' env' news', Inv Γ c h' env' [] news' [] → Q (.ret (.bool true)) (Γ.st h' tk')) :
    wpAny (model Γ.prog Γ.w) c.A (execs [.Assign [.Name "tree" a1] (.Call (.Name "_law_tree" a2) [.List [.Subscript (.Name "script" a3) (.Slice none (some (.Constant (.int 40) k1 a4)) none a5) a6, .Constant (.int 0) k2 a7] a8, .Constant (.int 3) k3 a9] [] a10) a11,
      .Assign [.Name "text" b1] (.Call (.Name "list_expr" b2) [.Name "tree" b3] [] b4) b5,
      .If (.Compare (.Call (.Name "_law_read" d1) [.Name "text" d2] [] d3) [.NotEq] [.Name "tree" d4] d5) [.Return (some (.Constant (.bool false) k4 d6)) d7] [] e1,
      .For (.Tuple [.Name "begun" e2, .Name "end" e3] k5 e4) (.Call (.Name "_law_pairs" e5) [.Name "text" e6] [] e7)
        [.If (.Compare (.Call (.Name "_law_read" f1) [.BinOp (.BinOp (.Subscript (.Name "text" p1) (.Slice none (some (.Name "begun" p2)) none p3) p4) .Add (.Subscript (.Name "text" p5) (.Slice (some (.BinOp (.Name "begun" p6) .Add (.Constant (.int 1) k6 p7) p8)) (some (.Name "end" p9)) none p10) p11) p12) .Add
      (.Subscript (.Name "text" p13) (.Slice (some (.BinOp (.Name "end" p14) .Add (.Constant (.int 1) k7 p15) p16)) none none p17) p18) p19] [] f2) [.Eq] [.Name "tree" f3] f4) [.Return (some (.Constant (.bool false) k8 f5)) f6] [] f7] [] g1,
      .Return (some (.Constant (.bool true) k9 g2)) g3] c.env) Q c.E (Γ.st h tk) := by
  obtain ⟨t, r, s, prs, σ1, H1, H2, H3, H4, H5, H6, H7, H8, H9, H10, H11, H12⟩ := LF.facts
  have lk : ∀ x kd, c.cs.names.lookup x = some kd ↔ [(("script" : Str), NameKind.local), ("tree", .local), ("text", .local), ("begun", .local), ("end", .local), ("_law_tree", .globalImplicit), ("list_expr", .globalImplicit), ("_law_read", .globalImplicit), ("_law_pairs", .globalImplicit)].lookup x = some kd := fun x kd => by rw [hcs]
  have l1 : c.cs.names.lookup ("script" : Str) = some .local := (lk _ _).mpr (by decide +kernel)
  have l2 : c.cs.names.lookup ("tree" : Str) = some .local := (lk _ _).mpr (by decide +kernel)
  have l3 : c.cs.names.lookup ("text" : Str) = some .local := (lk _ _).mpr (by decide +kernel)
  have l4 : c.cs.names.lookup ("begun" : Str) = some .local := (lk _ _).mpr (by decide +kernel)
  have l5 : c.cs.names.lookup ("end" : Str) = some .local := (lk _ _).mpr (by decide +kernel)
  have l6 : c.cs.names.lookup ("_law_tree" : Str) = some .globalImplicit := (lk _ _).mpr (by decide +kernel)
  have l7 : c.cs.names.lookup ("list_expr" : Str) = some .globalImplicit := (lk _ _).mpr (by decide +kernel)
  have l8 : c.cs.names.lookup ("_law_read" : Str) = some .globalImplicit := (lk _ _).mpr (by decide +kernel)
  have l9 : c.cs.names.lookup ("_law_pairs" : Str) = some .globalImplicit := (lk _ _).mpr (by decide +kernel)
  refine wpAny_execs_cons (sx_tree gok cok hC hls hnm l1 l2 l6 hI hlen I F hm hl H1 H2 fun h1 tk1 n1 I1 => ?_)
  have sTree : SE Γ c (eval (.Name "tree" b3) c.env) (ev C (.var 1)).1 := se_var gok cok (X := ⟨c.cs, c.nm, dnames, consts⟩) ⟨rfl, rfl⟩ (slot_at (c := c) (x := "tree") (k := 1) (by rw [hnm]; decide +kernel) l2 (by decide +kernel))
  have sText : ∀ p, SE Γ c (eval (.Name "text" p) c.env) (ev C (.var 2)).1 := fun p => se_var gok cok (X := ⟨c.cs, c.nm, dnames, consts⟩) ⟨rfl, rfl⟩ (slot_at (c := c) (x := "text") (k := 2) (by rw [hnm]; decide +kernel) l3 (by decide +kernel))
  have sL := se_call gok cok hC (x := "list_expr") (es := [.Name "tree" b3]) (k := 20) (np := b2) (pos := b4) l7 (by decide +kernel) (by rw [names_ok]; decide +kernel) (fun e he => by rw [List.mem_singleton.mp he]; rfl) (fun h => nomatch h) (fun pos => sl_cons rfl sTree sl_nil)
  have sA := sx_asg cok (X := ⟨c.cs, c.nm, dnames, consts⟩) (xp := b1) (pos := b5) rfl rfl (slot_at (c := c) (x := "text") (k := 2) (by rw [hnm]; decide +kernel) l3 (by decide +kernel)) rfl sL
  refine wpAny_execs_cons (sA (envT t) [] h1 tk1 n1 [] _ I1 ?_)
  change PostF _ _ _ _ _ (Out.bind (C 20 [t] []) _)
  rw [H5]
  intro fl h2 tk2 n2 l2' I2 rf _
  cases rf
  have hl2' : l2' = [] := List.eq_nil_of_length_eq_zero (by rw [I2.S.len]; rfl)
  subst hl2'
  change Inv Γ c h2 (env3 t s none none) [] n2 [] at I2
  refine wpAny_execs_cons (wpAny_If (test_read gok cok rd hnm l2 l8 (.inr rfl) (sText d2) rfl (rfl : (ev C (.var 2)).1 (env3 t s none none) [] = .ok (.str s, [])) H6 rfl H7 H3 H4 I2 fun h3 tk3 n3 I3 _ => ?_))
  rw [show tells .NotEq r t = false from by show (!PyData.eqv (toD r) (toD t)) = false; rw [H8]; rfl]
  simp only [Bool.false_eq_true, if_false]
  refine wpAny_execs_nil ?_
  obtain ⟨fm, hfm, hval⟩ := se_minus gok cok hnm l3 l4 l5 (p1 := p1) (p2 := p2) (p3 := p3) (p4 := p4) (p5 := p5) (p6 := p6) (p7 := p7) (p8 := p8) (p9 := p9) (p10 := p10) (p11 := p11) (p12 := p12) (p13 := p13) (p14 := p14) (p15 := p15) (p16 := p16) (p17 := p17) (p18 := p18) (p19 := p19) (k1 := k6) (k2 := k7)
  refine wpAny_execs_cons (sx_pairs gok cok rd hC hn0 hls hnm l2 l3 l4 l5 l8 l9 hfm rfl H9 H10 H3 H4 (fun p hp => ?_) I3 fun h4 tk4 env4 n4 I4 => ?_)
  · obtain ⟨q1, q2, r', q3, q4, q5⟩ := H12 p hp
    exact ⟨r', minus s p.1 p.2, hval _ s p.1 p.2 rfl rfl rfl q1 q2 H11, q3, q4, q5⟩
  · exact wpAny_execs_cons (wpAny_Return_some (wpAny_Constant_bool (hq h4 tk4 env4 n4 I4)))
end
end Mine
namespace Mine
open PySem PySem.W PySem.Calls PyProof.Rows
/-- the law's own frame -/
def lawFC (s₁ : Shared) (qual : Str) (scope : Scope) (fa : Addr) (cd : Value) : FC :=
  { cn := qual, cs := scope, L := s₁.heap.objs.size, a := fa, cd := cd, outer := [], g := s₁.heap, dp := callerA.depth + 1, un := callerA.units + 3, gd := callerA.guards, A₀ := callerA, nm := [("script" : Str), "tree", "text", "begun", "end"], news₀ := [], ls₀ := [], E := fun _ _ => False, may := False, own := False, cells := [] }
theorem lawA (s₁ : Shared) (qual : Str) (scope : Scope) (fa : Addr) (cd : Value) : (lawFC s₁ qual scope fa cd).A = callerA.deeper (envOf qual scope s₁.heap.objs.size fa cd) := rfl
theorem law_dp : callerA.depth + 1 + 340 + 11 < recursionLimit := by decide +kernel
theorem law_un : callerA.units + 3 + 3 * 340 + 104 < cLine := by decide +kernel
section
variable {prog : Program} {w : World} {pv : Program} {s₁ : Shared} {loose : List Str} {mean : ExcName → Option Value} {mg mb : Str → Option Value}
theorem law_glue (KX : (KF w.params).In s₁.heap) (T : Top pv loose mean mg mb s₁.heap) {qual : Str} {scope : Scope} {fa : Addr} {cd : Value} {h₁ : Heap} {tk : Nat} {l : Addr} {vs : List Value} {zs : List Int} {m : Str → Option Value} (F : Fr s₁.heap s₁.heap.objs.size h₁ m) (hm : m "script" = some (.ref l)) (hl : s₁.heap.IsList l vs.toArray) (hI : IntsAre vs zs) (hlen : zs.length ≤ 1000)
    (LF : LawFacts (callP 100000 320) zs) (hk : scope.kind = .function)
    (hcs : scope.names = [(("script" : Str), .local), ("tree", .local), ("text", .local), ("begun", .local), ("end", .local), ("_law_tree", .globalImplicit), ("list_expr", .globalImplicit), ("_law_read", .globalImplicit), ("_law_pairs", .globalImplicit)])
    {a1 a2 a3 a4 a5 a6 a7 a8 a9 a10 a11 b1 b2 b3 b4 b5 d1 d2 d3 d4 d5 d6 d7 e1 e2 e3 e4 e5 e6 e7 f1 f2 f3 f4 f5 f6 f7 p1 p2 p3 p4 p5 p6 p7 p8 p9 p10 p11 p12 p13 p14 p15 p16 p17 p18 p19 g1 g2 g3 : Pos} {k1 k2 k3 k4 k5 k6 k7 k8 k9 : Nat} {Q : Flow → Shared → Prop} {E : Value → Shared → Prop}
    (hq : ∀ h' tk' m', Fr s₁.heap s₁.heap.objs.size h' m' → Q (.ret (.bool true)) { s₁ with heap := h', toks := tk' }) :
    wpAny (model prog w) (callerA.deeper (envOf qual scope s₁.heap.objs.size fa cd)) (execs [.Assign [.Name "tree" a1] (.Call (.Name "_law_tree" a2) [.List [.Subscript (.Name "script" a3) (.Slice none (some (.Constant (.int 40) k1 a4)) none a5) a6, .Constant (.int 0) k2 a7] a8, .Constant (.int 3) k3 a9] [] a10) a11,
      .Assign [.Name "text" b1] (.Call (.Name "list_expr" b2) [.Name "tree" b3] [] b4) b5,
      .If (.Compare (.Call (.Name "_law_read" d1) [.Name "text" d2] [] d3) [.NotEq] [.Name "tree" d4] d5) [.Return (some (.Constant (.bool false) k4 d6)) d7] [] e1,
      .For (.Tuple [.Name "begun" e2, .Name "end" e3] k5 e4) (.Call (.Name "_law_pairs" e5) [.Name "text" e6] [] e7)
        [.If (.Compare (.Call (.Name "_law_read" f1) [.BinOp (.BinOp (.Subscript (.Name "text" p1) (.Slice none (some (.Name "begun" p2)) none p3) p4) .Add (.Subscript (.Name "text" p5) (.Slice (some (.BinOp (.Name "begun" p6) .Add (.Constant (.int 1) k6 p7) p8)) (some (.Name "end" p9)) none p10) p11) p12) .Add
      (.Subscript (.Name "text" p13) (.Slice (some (.BinOp (.Name "end" p14) .Add (.Constant (.int 1) k7 p15) p16)) none none p17) p18) p19] [] f2) [.Eq] [.Name "tree" f3] f4) [.Return (some (.Constant (.bool false) k8 f5)) f6] [] f7] [] g1,
      .Return (some (.Constant (.bool true) k9 g2)) g3] (envOf qual scope s₁.heap.objs.size fa cd)) Q E { s₁ with heap := h₁, toks := tk } := by
  have gok := gc_ok (prog := prog) (w := w) KX T
  have ek := ek_ok (prog := prog) (w := w) (pv := pv) (s := s₁) (loose := loose) (mean := mean) (mg := mg) (mb := mb)
  have dk := defsK_ok (prog := prog) (w := w) (pv := pv) (s := s₁) (loose := loose) (mean := mean) (mg := mg) (mb := mb)
  have h1 := law_dp
  have h2 := law_un
  have cok : (lawFC s₁ qual scope fa cd).Ok (GCof prog w pv s₁ loose mean mg mb) := {
    B := below_caller s₁.heap
    kind := hk
    nmnd := by show [("script" : Str), "tree", "text", "begun", "end"].Nodup; decide +kernel
    hE := PassesOwn.never
    hX := fun h => h.elim
    room := by show callerA.units + 3 + 100 < cLine; omega
    roomD := by show callerA.depth + 1 + 10 < recursionLimit; omega }
  have hC : ∀ c' : FC, c'.Ok (GCof prog w pv s₁ loose mean mg mb) → c'.dp + 320 + 11 < recursionLimit → c'.un + 3 * 320 + 101 < cLine → CallOk (GCof prog w pv s₁ loose mean mg mb) c' (callP 100000 320) := fun c' ok' q1 q2 => call_sound gok ek dk 100000 320 c' ok' q1 q2
  have rd : RdOk (GCof prog w pv s₁ loose mean mg mb) (lawFC s₁ qual scope fa cd) (callP 100000 320) := {
    rk := read_K w.params
    cells := rfl
    out := rfl
    own := ⟨31, _, _, _, f77_ns w.params, cls_lex w.params, cls_syn w.params, cls_f77 w.params, by decide +kernel, by decide +kernel⟩
    dp := by show callerA.depth + 1 + 12 < recursionLimit; omega
    un := by show callerA.units + 3 + 104 < cLine; omega
    hC := fun c' ok' q1 q2 => hC c' ok' (by rw [q1]; show callerA.depth + 1 + 1 + 320 + 11 < recursionLimit; omega) (by rw [q2]; show callerA.units + 3 + 3 + 3 * 320 + 101 < cLine; omega) }
  have I : Inv (GCof prog w pv s₁ loose mean mg mb) (lawFC s₁ qual scope fa cd) h₁ [none, none, none, none, none] [] [] [] := by
    refine ⟨⟨m, F, fun k x d hx hd => ?_⟩, News.nil, ⟨rfl, List.Pairwise.nil, fun a h => (nomatch h), fun a h => (nomatch h), fun k a l h => by simp at h⟩, Grow.refl⟩
    match k, hd with
    | 0, hd => cases hd
    | 1, hd => cases hd
    | 2, hd => cases hd
    | 3, hd => cases hd
    | 4, hd => cases hd
    | k + 5, hd => cases hd
  refine wpAny_mono (E := fun _ _ => False) ?_ (fun _ _ x => x) (fun _ _ x => x.elim)
  exact law_run (Γ := GCof prog w pv s₁ loose mean mg mb) (c := lawFC s₁ qual scope fa cd) (h := h₁) (tk := tk) gok cok rd (hC _ cok (by show callerA.depth + 1 + 320 + 11 < recursionLimit; omega) (by show callerA.units + 3 + 3 * 320 + 101 < cLine; omega)) rfl rfl rfl hcs hI hlen LF I F hm (by obtain ⟨o, ho, r⟩ := hl; exact ⟨o, F.keep _ _ ho, r⟩) (fun h' tk' env' news' I' => by
    obtain ⟨⟨m', F', _⟩, _⟩ := I'
    exact hq h' tk' m' F')
end
end Mine
namespace Mine
open PySem PySem.W PySem.Calls PyProof.Rows
theorem fin (LF : ∀ zs : List Int, zs.length ≤ 1000 → LawFacts (callP 100000 320) zs) : PySem.Challenge.rw_no0268_01.Holds := Mine.hd (by
  k_go0
  all_goals try k_fold
  refine law_glue (by assumption) (by assumption) (by assumption) rfl (by assumption) (by assumption) ?_ (LF _ ?_) rfl rfl fun h' tk' m' F' => goodW_bool F' (by assumption) (raisesW_false (by wrow_none_raised)) (by wrow_post)
  all_goals omega)
end Mine
namespace Mine
/-! the small language, read a step at a time -/
section
variable {C : Nat → List PV → Store → Out (PV × Store)} {env : Env'} {σ : Store}
theorem ok_bind {α β : Type} {a : α} {f : α → Out β} : (Out.ok a).bind f = f a := rfl
theorem exc_bind {α β : Type} {f : α → Out β} : (Out.exc).bind f = .exc := rfl
theorem stuck_bind {α β : Type} {f : α → Out β} : (Out.stuck).bind f = .stuck := rfl
theorem bind_bind {α β γ : Type} {o : Out α} {f : α → Out β} {g : β → Out γ} : (o.bind f).bind g = o.bind fun a => (f a).bind g := by cases o <;> rfl
theorem liftO_some {α : Type} {a : α} : liftO σ (some a) = .ok (a, σ) := rfl
theorem liftO_none {α : Type} : liftO σ (none : Option α) = .stuck := rfl
theorem ev_var {k : Nat} : (ev C (.var k)).1 env σ = liftO σ (env.getD k none) := rfl
theorem ev_cst {v : PV} : (ev C (.cst v)).1 env σ = .ok (v, σ) := rfl
theorem ev_bin {o : BO} {a b : PE} : (ev C (.bin o a b)).1 env σ = ((ev C a).1 env σ).bind fun r => ((ev C b).1 env r.2).bind fun q => liftO q.2 (binP o r.1 q.1) := rfl
theorem ev_neg {a : PE} : (ev C (.neg a)).1 env σ = ((ev C a).1 env σ).bind fun r => match r.1 with | .int i => .ok (.int (-i), r.2) | _ => .stuck := rfl
theorem ev_not {a : PE} : (ev C (.not a)).1 env σ = ((ev C a).1 env σ).bind fun r => (liftO r.2 (truthP r.2 r.1)).bind fun q => .ok (.bool (!q.1), q.2) := rfl
theorem ev_boolv {c : Bool} {es : PEs} : (ev C (.bool c es)).1 env σ = (evs C es).b c env σ := rfl
theorem ev_cmp {o : CO} {a b : PE} : (ev C (.cmp o a b)).1 env σ = ((ev C a).1 env σ).bind fun r => ((ev C b).1 env r.2).bind fun q => liftO q.2 ((cmpP o r.1 q.1).map PV.bool) := rfl
theorem ev_ite {t a b : PE} : (ev C (.ite t a b)).1 env σ = ((ev C t).2 env σ).bind fun r => match r.1 with | true => (ev C a).1 env r.2 | false => (ev C b).1 env r.2 := rfl
theorem ev_call {f : Nat} {es : PEs} : (ev C (.call f es)).1 env σ = ((evs C es).vals env σ).bind fun r => C f r.1 r.2 := rfl
theorem ev_bi {f : BI} {es : PEs} : (ev C (.bi f es)).1 env σ = ((evs C es).vals env σ).bind fun r => liftO r.2 (biP r.2 f r.1) := rfl
theorem ev_me {m : ME} {o : PE} {es : PEs} : (ev C (.me m o es)).1 env σ = ((ev C o).1 env σ).bind fun r => match recvP m r.1 with | true => ((evs C es).vals env r.2).bind fun q => meP m r.1 q.1 q.2 | false => .stuck := rfl
theorem ev_idx {a i : PE} : (ev C (.idx a i)).1 env σ = ((ev C a).1 env σ).bind fun r => ((ev C i).1 env r.2).bind fun q => liftO q.2 (idxP q.2 r.1 q.1) := rfl
theorem ev_cut {a lo hi : PE} : (ev C (.cut a lo hi)).1 env σ = ((ev C a).1 env σ).bind fun r => ((ev C lo).1 env r.2).bind fun q => ((ev C hi).1 env q.2).bind fun t => liftO t.2 (cutP r.1 q.1 t.1) := rfl
theorem ev_tup {es : PEs} : (ev C (.tup es)).1 env σ = ((evs C es).vals env σ).bind fun r => .ok (.tup r.1, r.2) := rfl
theorem ev_lst {es : PEs} : (ev C (.lst es)).1 env σ = ((evs C es).vals env σ).bind fun r => .ok (.loc r.2.length, r.2 ++ [r.1]) := rfl
theorem tr_var {k : Nat} : (ev C (.var k)).2 env σ = ((ev C (.var k)).1 env σ).bind fun r => liftO r.2 (truthP r.2 r.1) := rfl
theorem tr_cmp {o : CO} {a b : PE} : (ev C (.cmp o a b)).2 env σ = ((ev C (.cmp o a b)).1 env σ).bind fun r => liftO r.2 (truthP r.2 r.1) := rfl
theorem tr_idx {a b : PE} : (ev C (.idx a b)).2 env σ = ((ev C (.idx a b)).1 env σ).bind fun r => liftO r.2 (truthP r.2 r.1) := rfl
theorem tr_cst {v : PV} : (ev C (.cst v)).2 env σ = ((ev C (.cst v)).1 env σ).bind fun r => liftO r.2 (truthP r.2 r.1) := rfl
theorem tr_call {f : Nat} {es : PEs} : (ev C (.call f es)).2 env σ = ((ev C (.call f es)).1 env σ).bind fun r => liftO r.2 (truthP r.2 r.1) := rfl
theorem tr_me {m : ME} {o : PE} {es : PEs} : (ev C (.me m o es)).2 env σ = ((ev C (.me m o es)).1 env σ).bind fun r => liftO r.2 (truthP r.2 r.1) := rfl
theorem tr_not {a : PE} : (ev C (.not a)).2 env σ = ((ev C a).2 env σ).bind fun r => .ok (!r.1, r.2) := rfl
theorem tr_bool {c : Bool} {es : PEs} : (ev C (.bool c es)).2 env σ = (evs C es).a c env σ := rfl
theorem tr_ite {t a b : PE} : (ev C (.ite t a b)).2 env σ = ((ev C t).2 env σ).bind fun r => match r.1 with | true => (ev C a).2 env r.2 | false => (ev C b).2 env r.2 := rfl
theorem evs_nil : (evs C .nil).vals env σ = .ok ([], σ) := rfl
theorem evs_cons {e : PE} {r : PEs} : (evs C (.cons e r)).vals env σ = ((ev C e).1 env σ).bind fun v => ((evs C r).vals env v.2).bind fun vs => .ok (v.1 :: vs.1, vs.2) := rfl
theorem evb_one {c : Bool} {e : PE} : (evs C (.cons e .nil)).b c env σ = (ev C e).1 env σ := rfl
theorem evb_cons {c : Bool} {e f : PE} {r : PEs} : (evs C (.cons e (.cons f r))).b c env σ = ((ev C e).1 env σ).bind fun v => (liftO v.2 (truthP v.2 v.1)).bind fun t => match (t.1 == c) with | true => (evs C (.cons f r)).b c env v.2 | false => .ok v := rfl
theorem eva_nil {c : Bool} : (evs C .nil).a c env σ = .ok (c, σ) := rfl
theorem eva_cons {c : Bool} {e : PE} {r : PEs} : (evs C (.cons e r)).a c env σ = ((ev C e).2 env σ).bind fun t => match (t.1 == c) with | true => (evs C r).a c env t.2 | false => .ok (!c, t.2) := rfl
variable {N : Nat}
theorem ex_asg {k : Nat} {e : PE} : ex C N (.asg k e) env σ = ((ev C e).1 env σ).bind fun r => .ok (.next, env.set k (some r.1), r.2) := by simp only [ex]
theorem ex_asgT {ks : List Nat} {e : PE} : ex C N (.asgT ks e) env σ = ((ev C e).1 env σ).bind fun r => match (itemsP r.2 r.1).bind fun l => setAll ks l env with
      | some env' => .ok (.next, env', r.2)
      | none => .stuck := by
  conv => lhs; unfold ex
  all_goals rfl
theorem ex_put {o i e : PE} : ex C N (.put o i e) env σ = ((ev C e).1 env σ).bind fun r => ((ev C o).1 env r.2).bind fun q => ((ev C i).1 env q.2).bind fun t => match q.1, t.1 with
      | .loc j, .int k => (match t.2[j]? with
        | some l => if 0 ≤ k ∧ k < l.length then .ok (.next, env, t.2.set j (l.set k.toNat r.1)) else .stuck
        | none => .stuck)
      | _, _ => .stuck := by
  conv => lhs; unfold ex
  all_goals rfl
theorem ex_aug {k : Nat} {o : BO} {e : PE} : ex C N (.aug k o e) env σ = match env.getD k none with
      | some v => ((ev C e).1 env σ).bind fun r => (match binP o v r.1 with
        | some q => .ok (.next, env.set k (some q), r.2)
        | none => .stuck)
      | none => .stuck := by
  conv => lhs; unfold ex
  all_goals rfl
theorem ex_iff {t : PE} {a b : PSs} : ex C N (.iff t a b) env σ = ((ev C t).2 env σ).bind fun r => match r.1 with | true => exs C N a env r.2 | false => exs C N b env r.2 := by
  conv => lhs; unfold ex
  all_goals rfl
theorem ex_whl {t : PE} {b : PSs} : ex C N (.whl t b) env σ = whileN (ev C t).2 (exs C N b) N env σ := by simp only [ex]
theorem ex_forr {k : Nat} {lo hi : PE} {b : PSs} : ex C N (.forr k lo hi b) env σ = ((ev C lo).1 env σ).bind fun r => ((ev C hi).1 env r.2).bind fun q => match r.1, q.1 with
      | .int x, .int y => if -1000000000 < x ∧ x < 1000000000 ∧ -1000000000 < y ∧ y < 1000000000 then forN k (exs C N b) (y - x).toNat x env q.2 else .stuck
      | _, _ => .stuck := by
  conv => lhs; unfold ex
  all_goals rfl
theorem ex_ret {e : PE} : ex C N (.ret e) env σ = ((ev C e).1 env σ).bind fun r => .ok (.ret r.1, env, r.2) := by simp only [ex]
theorem ex_raise {c : Nat} {es : PEs} : ex C N (.raise c es) env σ = ((evs C es).vals env σ).bind fun _ => .exc := by simp only [ex]
theorem ex_exp {e : PE} : ex C N (.exp e) env σ = ((ev C e).1 env σ).bind fun r => match r.1 with | .none => .ok (.next, env, r.2) | _ => .stuck := by
  conv => lhs; unfold ex
  all_goals rfl
theorem ex_cont : ex C N .cont env σ = .ok (.cont, env, σ) := by simp only [ex]
theorem exs_nil : exs C N .nil env σ = .ok (.next, env, σ) := by simp only [exs]
theorem exs_cons {s : PS} {r : PSs} : exs C N (.cons s r) env σ = (ex C N s env σ).bind fun q => match q.1 with | .next => exs C N r q.2.1 q.2.2 | f => .ok (f, q.2.1, q.2.2) := by
  conv => lhs; unfold exs
  all_goals rfl
theorem while_step {T : ET} {B : EX} {n : Nat} {env' : Env'} {σ' σ'' : Store} (hT : T env σ = .ok (true, σ')) (hB : B env σ' = .ok (.next, env', σ'')) : whileN T B (n + 1) env σ = whileN T B n env' σ'' := by
  conv => lhs; unfold whileN
  rw [hT, ok_bind]; dsimp only; rw [hB]; rfl
theorem while_cont {T : ET} {B : EX} {n : Nat} {env' : Env'} {σ' σ'' : Store} (hT : T env σ = .ok (true, σ')) (hB : B env σ' = .ok (.cont, env', σ'')) : whileN T B (n + 1) env σ = whileN T B n env' σ'' := by
  conv => lhs; unfold whileN
  rw [hT, ok_bind]; dsimp only; rw [hB]; rfl
theorem while_ret {T : ET} {B : EX} {n : Nat} {env' : Env'} {σ' σ'' : Store} {v : PV} (hT : T env σ = .ok (true, σ')) (hB : B env σ' = .ok (.ret v, env', σ'')) : whileN T B (n + 1) env σ = .ok (.ret v, env', σ'') := by
  conv => lhs; unfold whileN
  rw [hT, ok_bind]; dsimp only; rw [hB]; rfl
theorem while_exc {T : ET} {B : EX} {n : Nat} {σ' : Store} (hT : T env σ = .ok (true, σ')) (hB : B env σ' = .exc) : whileN T B (n + 1) env σ = .exc := by
  conv => lhs; unfold whileN
  rw [hT, ok_bind]; dsimp only; rw [hB]; rfl
theorem while_stop {T : ET} {B : EX} {n : Nat} {σ' : Store} (hT : T env σ = .ok (false, σ')) : whileN T B (n + 1) env σ = .ok (.next, env, σ') := by
  conv => lhs; unfold whileN
  rw [hT]; rfl
end
/-- a plain def's call -/
theorem callP_plain {N d k : Nat} {f : FD} {args : List PV} {σ : Store} (hf : fdOf k = some f) (h12 : k ≠ 12 := by decide) (h15 : k ≠ 15 := by decide) (h50 : k ≠ 50 := by decide) : callP N (d + 1) k args σ = runFD (callP N d) N f args σ := by
  conv => lhs; unfold callP
  rw [if_neg h12, if_neg h15, if_neg h50, hf]
theorem runFD_eq {C : Nat → List PV → Store → Out (PV × Store)} {N : Nat} {d : FD} {args : List PV} {σ : Store} (h : args.length = d.npar) : runFD C N d args σ = (exs C N d.code (args.map some ++ List.replicate (d.nloc - d.npar) none) σ).bind fun q => leaveP σ.length q.1 q.2.2 := by
  unfold runFD; rw [if_pos h]
theorem noLocs_all {l : List PV} : noLocs l = l.all noLoc := by
  induction l with
  | nil => rfl
  | cons a r ih => simp [noLocs, ih]
/-- leaving with a plain value, the store as it was -/
theorem leave_int {n : Nat} {σ : Store} {i : Int} (h : σ.all noLocs = true) (hn : n = σ.length) : leaveP n (.ret (.int i)) σ = .ok (.int i, σ) := by
  subst hn
  simp only [leaveP, flP, freeze, List.take_length, h, if_true]
end Mine
namespace Mine
theorem runFD_args {C : Nat → List PV → Store → Out (PV × Store)} {N : Nat} {d : FD} {args : List PV} {σ : Store} {env : Env'} (h : args.length = d.npar) (he : args.map some ++ List.replicate (d.nloc - d.npar) none = env) : runFD C N d args σ = (exs C N d.code env σ).bind fun q => leaveP σ.length q.1 q.2.2 := by
  subst he; exact runFD_eq h
theorem getD0 {α : Type} {a d : α} {l : List α} : (a :: l).getD 0 d = a := rfl
theorem getDs {α : Type} {a d : α} {l : List α} {n : Nat} : (a :: l).getD (n + 1) d = l.getD n d := rfl
theorem set0 {α : Type} {a b : α} {l : List α} : (a :: l).set 0 b = b :: l := rfl
theorem sets {α : Type} {a b : α} {l : List α} {n : Nat} : (a :: l).set (n + 1) b = a :: l.set n b := rfl
mutual
theorem freeze_nl {n : Nat} {σ : Store} : ∀ {v : PV}, noLoc v = true → freeze n σ v = some v
  | .none, _ => rfl
  | .bool _, _ => rfl
  | .int _, _ => rfl
  | .str _, _ => rfl
  | .tab _, _ => rfl
  | .list l, h => by unfold noLoc at h; unfold freeze; rw [if_pos h]
  | .tup l, h => by unfold noLoc at h; unfold freeze; rw [freezes_nl h]; rfl
  | .loc k, h => by unfold noLoc at h; cases h
theorem freezes_nl {n : Nat} {σ : Store} : ∀ {l : List PV}, noLocs l = true → freezes n σ l = some l
  | [], _ => rfl
  | v :: r, h => by
    unfold noLocs at h
    obtain ⟨h1, h2⟩ := Bool.and_eq_true_iff.mp h
    unfold freezes
    rw [freeze_nl h1, freezes_nl h2]; rfl
end
/-- the value handed back, with nothing new in the store -/
theorem leave_nl {σ : Store} {v : PV} (hv : noLoc v = true) (h : σ.all noLocs = true) : leaveP σ.length (.ret v) σ = .ok (v, σ) := by
  simp only [leaveP, flP, freeze_nl hv, List.take_length, h, if_true]
/-! tokens -/
inductive Tok where
  | op (s : List Nat)
  | int (v : Nat)
  | real (m : Nat) (e : Int)
  | dble (m : Nat) (e : Int)
  | log (b : Bool)
  | chr (s : List Nat)
  | nam (s : List Nat)
def Tok.kd : Tok → List Nat
  | .op _ => [79, 80]
  | .int _ => [73, 78, 84]
  | .real _ _ => [82, 69, 65, 76]
  | .dble _ _ => [68, 66, 76, 69]
  | .log _ => [76, 79, 71]
  | .chr _ => [67, 72, 65, 82]
  | .nam _ => [78, 65, 77, 69]
def Tok.vl : Tok → PV
  | .op s => .str s
  | .int v => .int v
  | .real m e => .tup [.int m, .int e]
  | .dble m e => .tup [.int m, .int e]
  | .log b => .bool b
  | .chr s => .str s
  | .nam s => .str s
def tkPV (p : Tok × Nat) : PV := .tup [.str p.1.kd, p.1.vl, .int p.2]
abbrev Toks := List (Tok × Nat)
def tkL (ts : Toks) : PV := .list (ts.map tkPV)
def isOp (s : List Nat) : Toks → Bool
  | (.op t, _) :: _ => decide (t = s)
  | _ => false
def kindOf : Toks → List Nat
  | (t, _) :: _ => t.kd
  | [] => []
section
variable {ts : Toks} {at_ : Nat} {σ : Store}
theorem tk_nl (p : Tok × Nat) : noLoc (tkPV p) = true := by
  obtain ⟨t, n⟩ := p; cases t <;> rfl
theorem tks_nl : ∀ (ts : Toks), noLocs (ts.map tkPV) = true
  | [] => rfl
  | p :: r => by rw [List.map_cons, noLocs, tk_nl, tks_nl r]; rfl
theorem len_tk (h : ts.length ≤ szL) : biP σ .len [tkL ts] = some (.int ts.length) := by
  unfold tkL; simp only [biP, List.length_map, h, if_true]
theorem idx_nat {l : List PV} {k : Nat} {v : PV} (hk : l[k]? = some v) (hl : l.length ≤ szL) : idxP σ (.list l) (.int k) = some v := by
  have h1 : k < l.length := (List.getElem?_eq_some_iff.mp hk).1
  have h2 : (Int.natAbs (k : Int)) < 2 ^ 62 := by
    have : szL < 2 ^ 62 := by decide
    simp only [Int.natAbs_natCast]; omega
  simp only [idxP, h2, if_true, pyIdx, Int.natCast_nonneg, Int.toNat_natCast, h1, Option.bind_some, hk]
theorem idx_tk {p : Tok × Nat} {r : Toks} (hd : ts.drop at_ = p :: r) (h : ts.length ≤ szL) : idxP σ (tkL ts) (.int at_) = some (tkPV p) := by
  refine idx_nat ?_ (by simpa using h)
  have : ts[at_]? = some p := by
    have := congrArg (fun l => l[0]?) hd
    simpa using this
  simp [this]
theorem lt_tk {p : Tok × Nat} {r : Toks} (hd : ts.drop at_ = p :: r) : at_ < ts.length := by
  have := congrArg List.length hd
  simp only [List.length_drop, List.length_cons] at this; omega
theorem ge_tk (hd : ts.drop at_ = []) : ts.length ≤ at_ := by
  have := congrArg List.length hd
  simp only [List.length_drop, List.length_nil] at this; omega
theorem cmp_lt (a b : Nat) : cmpP .lt (.int a) (.int b) = some (decide (a < b)) := by
  simp only [cmpP, Int.ofNat_lt]
theorem cmp_eqs (a b : List Nat) : cmpP .eq (.str a) (.str b) = some (decide (a = b)) := rfl
theorem cmp_nes (a b : List Nat) : cmpP .ne (.str a) (.str b) = some (!decide (a = b)) := rfl
theorem cmp_eqi (a b : Int) : cmpP .eq (.int a) (.int b) = some (decide (a = b)) := rfl
theorem cmp_lti (a b : Int) : cmpP .lt (.int a) (.int b) = some (decide (a < b)) := rfl
theorem cmp_lei (a b : Int) : cmpP .le (.int a) (.int b) = some (decide (a ≤ b)) := rfl
theorem cmp_gti (a b : Int) : cmpP .gt (.int a) (.int b) = some (decide (b < a)) := rfl
theorem cmp_gei (a b : Int) : cmpP .ge (.int a) (.int b) = some (decide (b ≤ a)) := rfl
theorem tr_b (b : Bool) : truthP σ (.bool b) = some b := rfl
theorem bt1 : (true == true) = true := rfl
theorem bt2 : (false == true) = false := rfl
theorem bt3 : (true == false) = false := rfl
theorem bt4 : (false == false) = true := rfl
theorem idx_tk0 (p : Tok × Nat) : idxP σ (tkPV p) (.int 0) = some (.str p.1.kd) := rfl
theorem idx_tk1 (p : Tok × Nat) : idxP σ (tkPV p) (.int 1) = some p.1.vl := rfl
theorem bin_addi (a b : Int) : binP .add (.int a) (.int b) = some (.int (a + b)) := rfl
theorem bin_subi (a b : Int) : binP .sub (.int a) (.int b) = some (.int (a - b)) := rfl
theorem ci1 (a : Nat) : (a : Int) + 1 = ((a + 1 : Nat) : Int) := rfl
end
/-! the step lemmas, as one -/
theorem l_ms {α β : Type} {f : α → β} {a : α} : Option.map f (some a) = some (f a) := rfl
theorem l_mn {α β : Type} {f : α → β} : Option.map f none = none := rfl
theorem l_bs {α β : Type} {f : α → Option β} {a : α} : (some a).bind f = f a := rfl
theorem l_bn {α β : Type} {f : α → Option β} : (none : Option α).bind f = none := rfl
theorem l_it {σ : Store} {l : List PV} : itemsP σ (.tup l) = some l := rfl
theorem l_il {σ : Store} {k : Nat} : itemsP σ (.loc k) = σ[k]? := rfl
theorem l_sn {env : Env'} : setAll [] [] env = some env := rfl
theorem l_sc {k : Nat} {ks : List Nat} {v : PV} {vs : List PV} {env : Env'} : setAll (k :: ks) (v :: vs) env = setAll ks vs (env.set k (some v)) := rfl
theorem l_dt {h : Decidable True} : @decide True h = true := decide_true h
theorem l_df {h : Decidable False} : @decide False h = false := decide_false h
theorem l_nt : (!true) = false := rfl
theorem l_nf : (!false) = true := rfl
theorem l_tt {α : Type} {h : Decidable True} {a b : α} : @ite α True h a b = a := if_pos trivial
theorem l_ff {α : Type} {h : Decidable False} {a b : α} : @ite α False h a b = b := if_neg not_false
theorem l_lt {m n : Nat} : ((m : Int) < (n : Int)) = (m < n) := propext Int.ofNat_lt
theorem l_le {m n : Nat} : ((m : Int) ≤ (n : Int)) = (m ≤ n) := propext Int.ofNat_le
theorem l_eq {m n : Nat} : ((m : Int) = (n : Int)) = (m = n) := propext Int.ofNat_inj
theorem l_pt : (¬ True) = False := not_true_eq_false
theorem l_pf : (¬ False) = True := not_false_eq_true
def eg := And.intro @exs_cons (And.intro @exs_nil (And.intro @ex_asg (And.intro @ex_asgT (And.intro @ex_put (And.intro @ex_aug (And.intro @ex_iff (And.intro @ex_whl (And.intro @ex_forr (And.intro @ex_ret (And.intro @ex_raise (And.intro @ex_exp (And.intro @ex_cont (And.intro @ev_var (And.intro @ev_cst (And.intro @ev_bin (And.intro @ev_neg (And.intro @ev_not (And.intro @ev_boolv (And.intro @ev_cmp (And.intro @ev_ite (And.intro @ev_call (And.intro @ev_bi (And.intro @ev_me (And.intro @ev_idx (And.intro @ev_cut (And.intro @ev_tup (And.intro @ev_lst (And.intro @tr_var (And.intro @tr_cmp (And.intro @tr_idx (And.intro @tr_cst (And.intro @tr_call (And.intro @tr_me (And.intro @tr_not (And.intro @tr_bool (And.intro @tr_ite (And.intro @evs_nil (And.intro @evs_cons (And.intro @evb_one (And.intro @evb_cons (And.intro @eva_nil (And.intro @eva_cons (And.intro @ok_bind (And.intro @exc_bind (And.intro @stuck_bind (And.intro @liftO_some (And.intro @liftO_none (And.intro @getD0 (And.intro @getDs (And.intro @set0 (And.intro @sets (And.intro @l_ms (And.intro @l_mn (And.intro @l_bs (And.intro @l_bn (And.intro @tr_b (And.intro @bt1 (And.intro @bt2 (And.intro @bt3 (And.intro @bt4 (And.intro @l_dt (And.intro @l_df (And.intro @l_nt (And.intro @l_nf (And.intro @l_it (And.intro @l_il (And.intro @l_sn (And.intro @l_sc (And.intro @cmp_eqs (And.intro @cmp_nes (And.intro @cmp_eqi (And.intro @cmp_lti (And.intro @cmp_lei (And.intro @cmp_gti (And.intro @cmp_gei (And.intro @idx_tk0 (And.intro @idx_tk1 (And.intro @bin_addi (And.intro @bin_subi (And.intro @l_tt (And.intro @l_ff (And.intro @ci1 (And.intro @l_lt (And.intro @l_le (And.intro @l_eq (And.intro @l_pt (@l_pf)))))))))))))))))))))))))))))))))))))))))))))))))))))))))))))))))))))))))))))))))))))))
theorem call_isOp {N d : Nat} {ts : Toks} {a : Nat} {s : List Nat} {σ : Store} (hl : ts.length ≤ szL) (hσ : σ.all noLocs = true) :
    callP N (d + 1) 22 [tkL ts, .int a, .str s] σ = .ok (.bool (isOp s (ts.drop a)), σ) := by
  rw [callP_plain (f := c22) rfl, runFD_args (env := [some (tkL ts), some (.int a), some (.str s)]) rfl rfl]
  unfold c22
  cases hd : ts.drop a with
  | nil =>
    have := ge_tk hd
    simp only [eg, len_tk hl, Nat.not_lt.mpr this]
    exact leave_nl (v := .bool false) rfl hσ
  | cons p r =>
    have := lt_tk hd
    obtain ⟨t, n⟩ := p
    cases t with
    | op t =>
      simp only [eg, len_tk hl, this, idx_tk hd hl, Tok.kd, Tok.vl]
      exact leave_nl (v := .bool (decide (t = s))) rfl hσ
    | _ =>
      have : ∀ l : List Nat, l = [79, 80] → True := fun _ _ => trivial
      simp only [eg, len_tk hl, lt_tk hd, idx_tk hd hl, Tok.kd, show (([73, 78, 84] : List Nat) = [79, 80]) = False by decide, show (([82, 69, 65, 76] : List Nat) = [79, 80]) = False by decide, show (([68, 66, 76, 69] : List Nat) = [79, 80]) = False by decide, show (([76, 79, 71] : List Nat) = [79, 80]) = False by decide, show (([67, 72, 65, 82] : List Nat) = [79, 80]) = False by decide, show (([78, 65, 77, 69] : List Nat) = [79, 80]) = False by decide]
      exact leave_nl (v := .bool false) rfl hσ
end Mine
namespace Mine
/-! trees -/
inductive Num where
  | int (i : Int)
  | real (m e : Int)
  deriving DecidableEq
mutual
inductive Tr where
  | bin (op : List Nat) (l r : Tr)
  | un (op : List Nat) (a : Tr)
  | nam (s : List Nat)
  | ref (s : List Nat) (args : Trs)
  | sub (base : Tr) (lo hi : TrO)
  | int (i : Int)
  | real (m e : Int)
  | dble (m e : Int)
  | log (b : Bool)
  | chr (s : List Nat)
  | cplx (a b : Num)
inductive TrO where
  | none
  | some (t : Tr)
inductive Trs where
  | nil
  | cons (t : Tr) (r : Trs)
end
def Num.pv : Num → PV
  | .int i => .tup [.str [105, 110, 116], .int i]
  | .real m e => .tup [.str [114, 101, 97, 108], .int m, .int e]
mutual
def Tr.pv : Tr → PV
  | .bin op l r => .tup [.str [98, 105, 110], .str op, l.pv, r.pv]
  | .un op a => .tup [.str [117, 110], .str op, a.pv]
  | .nam s => .tup [.str [110, 97, 109, 101], .str s]
  | .ref s as => .tup [.str [114, 101, 102], .str s, .list as.pvs]
  | .sub b lo hi => .tup [.str [115, 117, 98], b.pv, lo.pv, hi.pv]
  | .int i => .tup [.str [105, 110, 116], .int i]
  | .real m e => .tup [.str [114, 101, 97, 108], .int m, .int e]
  | .dble m e => .tup [.str [100, 98, 108, 101], .int m, .int e]
  | .log b => .tup [.str [108, 111, 103], .bool b]
  | .chr s => .tup [.str [99, 104, 97, 114], .str s]
  | .cplx a b => .tup [.str [99, 112, 108, 120], a.pv, b.pv]
def TrO.pv : TrO → PV
  | .none => .none
  | .some t => t.pv
def Trs.pvs : Trs → List PV
  | .nil => []
  | .cons t r => t.pv :: r.pvs
end
theorem Num.pv_nl (a : Num) : noLoc a.pv = true := by cases a <;> rfl
mutual
theorem Tr.pv_nl : ∀ t : Tr, noLoc t.pv = true
  | .bin _ l r => by simp [Tr.pv, noLoc, noLocs, l.pv_nl, r.pv_nl]
  | .un _ a => by simp [Tr.pv, noLoc, noLocs, a.pv_nl]
  | .nam _ => rfl
  | .ref _ as => by simp [Tr.pv, noLoc, noLocs, as.pvs_nl]
  | .sub b lo hi => by simp [Tr.pv, noLoc, noLocs, b.pv_nl, lo.pv_nl, hi.pv_nl]
  | .int _ => rfl
  | .real _ _ => rfl
  | .dble _ _ => rfl
  | .log _ => rfl
  | .chr _ => rfl
  | .cplx a b => by simp [Tr.pv, noLoc, noLocs, a.pv_nl, b.pv_nl]
theorem TrO.pv_nl : ∀ t : TrO, noLoc t.pv = true
  | .none => rfl
  | .some t => by simp [TrO.pv, t.pv_nl]
theorem Trs.pvs_nl : ∀ t : Trs, noLocs t.pvs = true
  | .nil => rfl
  | .cons t r => by simp [Trs.pvs, noLocs, t.pv_nl, r.pvs_nl]
end
/-! the parser, plain -/
def prioT : List (List Nat × Nat) := [([46, 69, 81, 86, 46], 1), ([46, 78, 69, 81, 86, 46], 1), ([46, 79, 82, 46], 2), ([46, 65, 78, 68, 46], 3),
  ([46, 69, 81, 46], 5), ([46, 78, 69, 46], 5), ([46, 76, 84, 46], 5), ([46, 76, 69, 46], 5), ([46, 71, 84, 46], 5), ([46, 71, 69, 46], 5),
  ([47, 47], 6), ([43], 7), ([45], 7), ([42], 8), ([47], 8), ([42, 42], 9)]
def prioS (s : List Nat) : Nat := (prioT.lookup s).getD 0
theorem lookup_map {α β γ : Type} [BEq α] (f : β → γ) (a : α) : ∀ l : List (α × β), (l.map fun p => (p.1, f p.2)).lookup a = (l.lookup a).map f
  | [] => rfl
  | (x, y) :: r => by
    simp only [List.map_cons, List.lookup_cons]
    cases h : a == x <;> simp [h, lookup_map f a r]
theorem prio_tab (s : List Nat) : (tabP 2 s).getD (.int 0) = .int (prioS s) := by
  have e : priosT = prioT.map fun p => (p.1, PV.int (p.2 : Nat)) := rfl
  show (priosT.lookup s).getD (.int 0) = _
  rw [e, lookup_map (fun n : Nat => PV.int n) s prioT, prioS]
  cases prioT.lookup s <;> rfl
def prio : Toks → Nat
  | (.op s, _) :: _ => prioS s
  | _ => 0
def opTx : Toks → List Nat
  | (.op s, _) :: _ => s
  | _ => []
abbrev tLP : List Nat := [40]
abbrev tRP : List Nat := [41]
abbrev tCM : List Nat := [44]
abbrev tCL : List Nat := [58]
abbrev tPL : List Nat := [43]
abbrev tMI : List Nat := [45]
abbrev tNOT : List Nat := [46, 78, 79, 84, 46]
def needOp (s : List Nat) (l : Toks) : Out Toks := match isOp s l with | true => .ok l.tail | false => .exc
def partEnd (l : Toks) : Option Toks := match (match isOp tPL l || isOp tMI l with | true => l.tail | false => l) with
  | (.int _, _) :: r => some r
  | (.real _ _, _) :: r => some r
  | _ => none
def isCplx (l : Toks) : Bool := match partEnd l.tail with
  | none => false
  | some c => match isOp tCM c with
    | false => false
    | true => match partEnd c.tail with
      | none => false
      | some e => isOp tRP e
def cplxPart (l : Toks) : Out (Num × Toks) :=
  match (match l with | (.op _, _) :: r => r | _ => l) with
  | (.int v, _) :: r => .ok (.int ((if isOp tMI l then (-1 : Int) else 1) * v), r)
  | (.real m e, _) :: r => .ok (.real ((if isOp tMI l then (-1 : Int) else 1) * m) e, r)
  | _ => .stuck
/-- how far ahead the bracket closes -/
def closeAt : Toks → Int → Option Nat
  | [], _ => none
  | l@(_ :: r), dp => match isOp tLP l with
    | true => (closeAt r (dp + 1)).map (· + 1)
    | false => match isOp tRP l with
      | true => if dp - 1 = 0 then some 0 else (closeAt r (dp - 1)).map (· + 1)
      | false => (closeAt r dp).map (· + 1)
def cutScan : Nat → Toks → Int → Bool
  | 0, _, _ => false
  | _, [], _ => false
  | k + 1, l@(_ :: r), dp => match isOp tLP l with
    | true => cutScan k r (dp + 1)
    | false => match isOp tRP l with
      | true => cutScan k r (dp - 1)
      | false => if dp = 0 ∧ isOp tCL l = true then true else cutScan k r dp
def isCut (l : Toks) : Out Bool := match closeAt l 0 with
  | none => .exc
  | some k => .ok (cutScan (k - 1) l.tail 0)
section
variable (rec : Nat → Toks → Out (Tr × Toks))
def argLoop : Nat → Toks → Out (Trs × Toks)
  | 0, _ => .stuck
  | k + 1, l => (rec 1 l).bind fun q => match isOp tCM q.2 with
    | true => (argLoop k q.2.tail).bind fun rs => .ok (.cons q.1 rs.1, rs.2)
    | false => (needOp tRP q.2).bind fun r => .ok (.cons q.1 .nil, r)
def pArgs (l : Toks) : Out (Trs × Toks) := (needOp tLP l).bind fun l => match isOp tRP l with
  | true => .ok (.nil, l.tail)
  | false => argLoop rec (l.length + 1) l
def pPart (s : List Nat) (l : Toks) : Out (TrO × Toks) := match isOp s l with
  | true => .ok (.none, l)
  | false => (rec 1 l).bind fun q => .ok (.some q.1, q.2)
def pCut (base : Tr) (l : Toks) : Out (Tr × Toks) := (needOp tLP l).bind fun l => (pPart rec tCL l).bind fun a => (needOp tCL a.2).bind fun l => (pPart rec tRP l).bind fun b => (needOp tRP b.2).bind fun l => .ok (.sub base a.1 b.1, l)
def pNamed (s : List Nat) (l : Toks) : Out (Tr × Toks) := match isOp tLP l with
  | false => .ok (.nam s, l)
  | true => (isCut l).bind fun c => ((match c with | true => .ok (.nam s, l) | false => (pArgs rec l).bind fun q => .ok (.ref s q.1, q.2)) : Out (Tr × Toks)).bind fun b => match isOp tLP b.2 with
    | true => pCut rec b.1 b.2
    | false => .ok b
def pBracket (l : Toks) : Out (Tr × Toks) := match isCplx l with
  | true => (cplxPart l.tail).bind fun a => (cplxPart a.2.tail).bind fun b => (needOp tRP b.2).bind fun r => .ok (.cplx a.1 b.1, r)
  | false => (rec 1 l.tail).bind fun q => (needOp tRP q.2).bind fun r => .ok (q.1, r)
def pPrim (l : Toks) : Out (Tr × Toks) := match l with
  | [] => .exc
  | (.nam s, _) :: r => pNamed rec s r
  | (.op s, _) :: _ => if s = tLP then pBracket rec l else .exc
  | (.int v, _) :: r => .ok (.int v, r)
  | (.real m e, _) :: r => .ok (.real m e, r)
  | (.dble m e, _) :: r => .ok (.dble m e, r)
  | (.log b, _) :: r => .ok (.log b, r)
  | (.chr s, _) :: r => .ok (.chr s, r)
def pFirst (recU : Nat → Toks → Out (Tr × Toks)) (least : Nat) (l : Toks) : Out (Tr × Toks) := match isOp tNOT l with
  | true => if 4 < least then .exc else (recU 5 l.tail).bind fun q => .ok (.un tNOT q.1, q.2)
  | false => match isOp tPL l || isOp tMI l with
    | true => if 7 < least then .exc else (recU 8 l.tail).bind fun q => .ok (.un (opTx l) q.1, q.2)
    | false => pPrim rec l
def pLoop (least : Nat) : Nat → Tr → Bool → Toks → Out (Tr × Toks)
  | 0, _, _, _ => .stuck
  | k + 1, t, was, l => if least ≤ prio l then
      (if prio l = 5 ∧ was = true then .exc else (rec (if prio l = 9 then 9 else prio l + 1) l.tail).bind fun q => pLoop least k (.bin (opTx l) t q.1) (decide (prio l = 5)) q.2)
    else .ok (t, l)
end
def pB : Nat → Nat → Toks → Out (Tr × Toks)
  | n + 6, least, l => (pFirst (pB n) (pB (n + 4)) least l).bind fun q => pLoop (pB (n + 5)) least (l.length + 1) q.1 false q.2
  | _, _, _ => .stuck
theorem pB_eq {n least : Nat} {l : Toks} : pB (n + 6) least l = (pFirst (pB n) (pB (n + 4)) least l).bind fun q => pLoop (pB (n + 5)) least (l.length + 1) q.1 false q.2 := rfl
def fuelP : Nat := 450
def parse (l : Toks) : Out Tr := (pB fuelP 1 l).bind fun q => match q.2 with | [] => .ok q.1 | _ :: _ => .exc
end Mine
namespace Mine
def pos (ts l : Toks) : Nat := ts.length - l.length
theorem drop_pos {ts l : Toks} (h : l <:+ ts) : ts.drop (pos ts l) = l := by
  obtain ⟨p, rfl⟩ := h
  simp [pos]
theorem pos_cons {ts r : Toks} {x : Tok × Nat} (h : x :: r <:+ ts) : pos ts (x :: r) + 1 = pos ts r := by
  have := h.length_le
  simp only [List.length_cons] at this
  simp only [pos, List.length_cons]; omega
theorem suf_tail {ts r : Toks} {x : Tok × Nat} (h : x :: r <:+ ts) : r <:+ ts := (List.suffix_cons x r).trans h
theorem pos_lt {ts r : Toks} {x : Tok × Nat} (h : x :: r <:+ ts) : pos ts (x :: r) < ts.length := lt_tk (drop_pos h)
theorem pos_nil {ts : Toks} : pos ts [] = ts.length := by simp [pos]
theorem isOp_cons {s : List Nat} {l : Toks} (h : isOp s l = true) : ∃ n r, l = (.op s, n) :: r := by
  match l with
  | [] => cases h
  | (.op t, n) :: r => exact ⟨n, r, by rw [show t = s from by simpa [isOp] using h]⟩
  | (.int _, _) :: _ => cases h
  | (.real _ _, _) :: _ => cases h
  | (.dble _ _, _) :: _ => cases h
  | (.log _, _) :: _ => cases h
  | (.chr _, _) :: _ => cases h
  | (.nam _, _) :: _ => cases h
section
variable {N d : Nat} {ts l : Toks} {σ : Store}
theorem k_isOp (hl : ts.length ≤ szL) (hσ : σ.all noLocs = true) (h : l <:+ ts) (s : List Nat) : callP N (d + 1) 22 [tkL ts, .int (pos ts l), .str s] σ = .ok (.bool (isOp s l), σ) := by
  rw [call_isOp hl hσ, drop_pos h]
theorem ix_tk {p : Tok × Nat} {r : Toks} (hl : ts.length ≤ szL) (h : p :: r <:+ ts) : idxP σ (tkL ts) (.int (pos ts (p :: r))) = some (tkPV p) := idx_tk (drop_pos h) hl
theorem k_kind (hl : ts.length ≤ szL) (hσ : σ.all noLocs = true) (h : l <:+ ts) : callP N (d + 1) 21 [tkL ts, .int (pos ts l)] σ = .ok (.str (kindOf l), σ) := by
  rw [callP_plain (f := c21) rfl, runFD_args (env := [some (tkL ts), some (.int (pos ts l))]) rfl rfl]
  unfold c21
  cases l with
  | nil =>
    simp only [eg, len_tk hl, pos_nil, Nat.lt_irrefl]
    exact leave_nl (v := .str []) rfl hσ
  | cons p r =>
    simp only [eg, len_tk hl, pos_lt h, ix_tk hl h]
    exact leave_nl (v := .str p.1.kd) rfl hσ
theorem k_need (hl : ts.length ≤ szL) (hσ : σ.all noLocs = true) (h : l <:+ ts) (s : List Nat) (hs : s.length ≤ 10) : callP N (d + 2) 23 [tkL ts, .int (pos ts l), .str s] σ = (needOp s l).bind fun r => .ok (.int (pos ts r), σ) := by
  rw [callP_plain (f := c23) rfl, runFD_args (env := [some (tkL ts), some (.int (pos ts l)), some (.str s)]) rfl rfl]
  unfold c23
  simp only [eg, k_isOp hl hσ h]
  unfold needOp
  cases hi : isOp s l with
  | false =>
    have ha : ∀ t : List Nat, t.length ≤ 30 → binP .add (.str t) (.str s) = some (.str (t ++ s)) := fun t ht => by
      have : t.length + s.length ≤ szL := by have : (40 : Nat) ≤ szL := by decide
                                             omega
      simp only [binP, this, if_true]
    simp (disch := decide) only [eg, ha]
  | true =>
    obtain ⟨n, r, rfl⟩ := isOp_cons hi
    simp only [eg, List.tail_cons, pos_cons h]
    exact leave_nl (v := .int _) rfl hσ
theorem kd_op {t : Tok} : (t.kd = [79, 80]) ↔ ∃ s, t = .op s := by
  cases t <;> simp [Tok.kd]
theorem k_prio (hl : ts.length ≤ szL) (hσ : σ.all noLocs = true) (h : l <:+ ts) : callP N (d + 2) 27 [tkL ts, .int (pos ts l)] σ = .ok (.int (prio l), σ) := by
  rw [callP_plain (f := c27) rfl, runFD_args (env := [some (tkL ts), some (.int (pos ts l))]) rfl rfl]
  unfold c27
  simp only [eg, k_kind hl hσ h]
  match l, h with
  | [], h =>
    simp only [kindOf, show (([] : List Nat) = [79, 80]) = False by decide, eg]
    exact leave_nl (v := .int 0) rfl hσ
  | (.op s, n) :: r, h =>
    simp only [kindOf, Tok.kd, eg, ix_tk hl h, recvP, meP, Tok.vl, prio_tab]
    exact leave_nl (v := .int _) rfl hσ
  | (.int _, n) :: r, h
  | (.real _ _, n) :: r, h
  | (.dble _ _, n) :: r, h
  | (.log _, n) :: r, h
  | (.chr _, n) :: r, h
  | (.nam _, n) :: r, h =>
    simp (decide := true) only [kindOf, Tok.kd, eg]
    exact leave_nl (v := .int 0) rfl hσ
theorem k_int {sg : Int} {v : Nat} (hσ : σ.all noLocs = true) (hs : sg.natAbs ≤ 1) : callP N (d + 1) 32 [.str [73, 78, 84], .int v, .int sg] σ = .ok (.tup [.str [105, 110, 116], .int (sg * v)], σ) := by
  rw [callP_plain (f := c32) rfl, runFD_args (env := [some (.str [73, 78, 84]), some (.int v), some (.int sg)]) rfl rfl]
  unfold c32
  have hm : binP .mul (.int sg) (.int v) = some (.int (sg * v)) := by
    have : sg.natAbs < 2 ^ 63 := by omega
    simp only [binP, this, if_true]
  simp (decide := true) only [eg, hm]
  exact leave_nl (v := .tup [.str [105, 110, 116], .int (sg * v)]) rfl hσ
theorem k_real {sg e : Int} {m : Nat} (hσ : σ.all noLocs = true) (hs : sg.natAbs ≤ 1) : callP N (d + 1) 32 [.str [82, 69, 65, 76], .tup [.int m, .int e], .int sg] σ = .ok (.tup [.str [114, 101, 97, 108], .int (sg * m), .int e], σ) := by
  rw [callP_plain (f := c32) rfl, runFD_args (env := [some (.str [82, 69, 65, 76]), some (.tup [.int m, .int e]), some (.int sg)]) rfl rfl]
  unfold c32
  have hm : binP .mul (.int sg) (.int m) = some (.int (sg * m)) := by
    have : sg.natAbs < 2 ^ 63 := by omega
    simp only [binP, this, if_true]
  have h0 : ∀ σ, idxP σ (.tup [.int m, .int e]) (.int 0) = some (.int m) := fun _ => rfl
  have h1 : ∀ σ, idxP σ (.tup [.int m, .int e]) (.int 1) = some (.int e) := fun _ => rfl
  simp (decide := true) only [eg, hm, h0, h1]
  exact leave_nl (v := .tup [.str [114, 101, 97, 108], .int (sg * m), .int e]) rfl hσ
theorem k_dble {sg e : Int} {m : Nat} (hσ : σ.all noLocs = true) (hs : sg.natAbs ≤ 1) : callP N (d + 1) 32 [.str [68, 66, 76, 69], .tup [.int m, .int e], .int sg] σ = .ok (.tup [.str [100, 98, 108, 101], .int (sg * m), .int e], σ) := by
  rw [callP_plain (f := c32) rfl, runFD_args (env := [some (.str [68, 66, 76, 69]), some (.tup [.int m, .int e]), some (.int sg)]) rfl rfl]
  unfold c32
  have hm : binP .mul (.int sg) (.int m) = some (.int (sg * m)) := by
    have : sg.natAbs < 2 ^ 63 := by omega
    simp only [binP, this, if_true]
  have h0 : ∀ σ, idxP σ (.tup [.int m, .int e]) (.int 0) = some (.int m) := fun _ => rfl
  have h1 : ∀ σ, idxP σ (.tup [.int m, .int e]) (.int 1) = some (.int e) := fun _ => rfl
  simp (decide := true) only [eg, hm, h0, h1]
  exact leave_nl (v := .tup [.str [100, 98, 108, 101], .int (sg * m), .int e]) rfl hσ
theorem k_log {b : Bool} {sg : Int} (hσ : σ.all noLocs = true) : callP N (d + 1) 32 [.str [76, 79, 71], .bool b, .int sg] σ = .ok (.tup [.str [108, 111, 103], .bool b], σ) := by
  rw [callP_plain (f := c32) rfl, runFD_args (env := [some (.str [76, 79, 71]), some (.bool b), some (.int sg)]) rfl rfl]
  unfold c32
  simp (decide := true) only [eg]
  exact leave_nl (v := .tup [.str [108, 111, 103], .bool b]) rfl hσ
theorem k_chr {s : List Nat} {sg : Int} (hσ : σ.all noLocs = true) : callP N (d + 1) 32 [.str [67, 72, 65, 82], .str s, .int sg] σ = .ok (.tup [.str [99, 104, 97, 114], .str s], σ) := by
  rw [callP_plain (f := c32) rfl, runFD_args (env := [some (.str [67, 72, 65, 82]), some (.str s), some (.int sg)]) rfl rfl]
  unfold c32
  simp (decide := true) only [eg]
  exact leave_nl (v := .tup [.str [99, 104, 97, 114], .str s]) rfl hσ
end
end Mine
namespace Mine
section
variable {N d : Nat} {ts l : Toks} {σ : Store}
def oPos (ts : Toks) : Option Toks → Int
  | some r => pos ts r
  | none => -1
def skipSign (l : Toks) : Toks := match isOp tPL l || isOp tMI l with | true => l.tail | false => l
def partTok (l : Toks) : Option Toks := match l with
  | (.int _, _) :: r => some r
  | (.real _ _, _) :: r => some r
  | _ => none
theorem partEnd_eq : partEnd l = partTok (skipSign l) := rfl
theorem skipSign_suf (h : l <:+ ts) : skipSign l <:+ ts := by
  unfold skipSign
  split
  · exact (List.tail_suffix l).trans h
  · exact h
theorem partTok_suf {r : Toks} (h : l <:+ ts) (hr : partTok l = some r) : r <:+ ts := by
  unfold partTok at hr
  split at hr
  · cases hr; exact suf_tail h
  · cases hr; exact suf_tail h
  · cases hr
theorem partEnd_suf {r : Toks} (h : l <:+ ts) (hr : partEnd l = some r) : r <:+ ts := partTok_suf (skipSign_suf h) (by rw [← partEnd_eq]; exact hr)
theorem k_partEnd (hl : ts.length ≤ szL) (hσ : σ.all noLocs = true) (h : l <:+ ts) : callP N (d + 2) 34 [tkL ts, .int (pos ts l)] σ = .ok (.int (oPos ts (partEnd l)), σ) := by
  rw [callP_plain (f := c34) rfl, runFD_args (env := [some (tkL ts), some (.int (pos ts l))]) rfl rfl]
  unfold c34
  have key : ∀ l : Toks, l <:+ ts → (exs (callP N (d + 1)) N (.cons (.iff (.bool false (.cons (.cmp .eq (.call 21 (.cons (.var 0) (.cons (.var 1) .nil))) (.cst (.str [73, 78, 84]))) (.cons (.cmp .eq (.call 21 (.cons (.var 0) (.cons (.var 1) .nil))) (.cst (.str [82, 69, 65, 76]))) .nil))) (.cons (.ret (.bin .add (.var 1) (.cst (.int 1)))) .nil) .nil) (.cons (.ret (.neg (.cst (.int 1)))) .nil)) [some (tkL ts), some (.int (pos ts l))] σ).bind (fun q => leaveP σ.length q.1 q.2.2) = .ok (.int (oPos ts (partTok l)), σ) := by
    intro l h
    simp only [eg, k_kind hl hσ h]
    match l, h with
    | [], h =>
      simp (decide := true) only [eg, kindOf]
      exact leave_nl (v := .int (-1)) rfl hσ
    | (.int _, n) :: r, h
    | (.real _ _, n) :: r, h =>
      simp (decide := true) only [kindOf, Tok.kd, eg, pos_cons h]
      exact leave_nl (v := .int (pos ts r)) rfl hσ
    | (.op _, n) :: r, h
    | (.dble _ _, n) :: r, h
    | (.log _, n) :: r, h
    | (.chr _, n) :: r, h
    | (.nam _, n) :: r, h =>
      simp (decide := true) only [kindOf, Tok.kd, eg]
      exact leave_nl (v := .int (-1)) rfl hσ
  rw [exs_cons, partEnd_eq]
  have st : ex (callP N (d + 1)) N (.iff (.bool false (.cons (.call 22 (.cons (.var 0) (.cons (.var 1) (.cons (.cst (.str [43])) .nil)))) (.cons (.call 22 (.cons (.var 0) (.cons (.var 1) (.cons (.cst (.str [45])) .nil)))) .nil))) (.cons (.aug 1 .add (.cst (.int 1))) .nil) .nil) [some (tkL ts), some (.int (pos ts l))] σ = .ok (.next, [some (tkL ts), some (.int (pos ts (skipSign l)))], σ) := by
    simp only [eg, k_isOp hl hσ h]
    unfold skipSign
    cases h1 : isOp tPL l with
    | true =>
      obtain ⟨n, r, rfl⟩ := isOp_cons h1
      simp only [eg, Bool.true_or, List.tail_cons, pos_cons h]
    | false =>
      cases h2 : isOp tMI l with
      | true =>
        obtain ⟨n, r, rfl⟩ := isOp_cons h2
        simp only [eg, Bool.or_true, List.tail_cons, pos_cons h, k_isOp hl hσ h, h2]
      | false => simp only [eg, Bool.or_false, k_isOp hl hσ h, h2]
  rw [st, ok_bind]
  exact key _ (skipSign_suf h)
theorem oPos_lt (r : Toks) : ((pos ts r : Int) < 0) = False := by
  simp only [eq_iff_iff, iff_false]; omega
theorem oPos_ge (r : Toks) : ((0 : Int) ≤ (pos ts r : Int)) = True := by
  simp only [eq_iff_iff, iff_true]; omega
theorem k_isCplx {p : Tok × Nat} {r : Toks} (hl : ts.length ≤ szL) (hσ : σ.all noLocs = true) (h : p :: r <:+ ts) : callP N (d + 3) 35 [tkL ts, .int (pos ts (p :: r))] σ = .ok (.bool (isCplx (p :: r)), σ) := by
  rw [callP_plain (f := c35) rfl, runFD_args (env := [some (tkL ts), some (.int (pos ts (p :: r))), none, none]) rfl rfl]
  unfold c35 isCplx
  have h' := suf_tail h
  simp only [eg, pos_cons h, k_partEnd hl hσ h', List.tail_cons]
  cases hc : partEnd r with
  | none =>
    simp (decide := true) only [eg, oPos]
    exact leave_nl (v := .bool false) rfl hσ
  | some c =>
    have hcs := partEnd_suf h' hc
    simp only [eg, oPos, oPos_lt, k_isOp hl hσ hcs]
    cases h1 : isOp tCM c with
    | false =>
      simp only [eg]
      exact leave_nl (v := .bool false) rfl hσ
    | true =>
      obtain ⟨n, c', rfl⟩ := isOp_cons h1
      have hcs' := suf_tail hcs
      simp only [eg, pos_cons hcs, k_partEnd hl hσ hcs', List.tail_cons]
      cases he : partEnd c' with
      | none =>
        simp (decide := true) only [eg, oPos]
        exact leave_nl (v := .bool false) rfl hσ
      | some e =>
        have hes := partEnd_suf hcs' he
        simp only [eg, oPos, oPos_ge, k_isOp hl hσ hes]
        exact leave_nl (v := .bool _) rfl hσ
def opTail (l : Toks) : Toks := match l with | (.op _, _) :: r => r | _ => l
def numOf (sg : Int) : Toks → Out (Num × Toks)
  | (.int v, _) :: r => .ok (.int (sg * v), r)
  | (.real m e, _) :: r => .ok (.real (sg * m) e, r)
  | _ => .stuck
theorem cplxPart_eq : cplxPart l = numOf (if isOp tMI l then -1 else 1) (opTail l) := rfl
theorem opTail_suf (h : l <:+ ts) : opTail l <:+ ts := by
  unfold opTail
  split
  · exact suf_tail h
  · exact h
def cv {α : Type} (ts : Toks) (σ : Store) (f : α → PV) : Out (α × Toks) → Out (PV × Store)
  | .ok q => .ok (.tup [f q.1, .int (pos ts q.2)], σ)
  | .exc => .exc
  | .stuck => .stuck
theorem k_cplxPart (hl : ts.length ≤ szL) (hσ : σ.all noLocs = true) (h : l <:+ ts) (hn : cplxPart l ≠ .stuck) : callP N (d + 2) 36 [tkL ts, .int (pos ts l)] σ = cv ts σ Num.pv (cplxPart l) := by
  rw [callP_plain (f := c36) rfl, runFD_args (env := [some (tkL ts), some (.int (pos ts l)), none]) rfl rfl]
  unfold c36
  rw [cplxPart_eq] at hn ⊢
  have key : ∀ (l : Toks) (sg : Int), sg.natAbs ≤ 1 → l <:+ ts → numOf sg l ≠ .stuck → (exs (callP N (d + 1)) N (.cons (.ret (.tup (.cons (.call 32 (.cons (.idx (.idx (.var 0) (.var 1)) (.cst (.int 0))) (.cons (.idx (.idx (.var 0) (.var 1)) (.cst (.int 1))) (.cons (.var 2) .nil)))) (.cons (.bin .add (.var 1) (.cst (.int 1))) .nil)))) .nil) [some (tkL ts), some (.int (pos ts l)), some (.int sg)] σ).bind (fun q => leaveP σ.length q.1 q.2.2) = cv ts σ Num.pv (numOf sg l) := by
    intro l sg hs h hn
    match l, h, hn with
    | (.int v, n) :: r, h, hn =>
      simp only [eg, ix_tk hl h, Tok.kd, Tok.vl, k_int hσ hs, pos_cons h]
      exact leave_nl (v := .tup [_, .int (pos ts r)]) rfl hσ
    | (.real m e, n) :: r, h, hn =>
      simp only [eg, ix_tk hl h, Tok.kd, Tok.vl, k_real hσ hs, pos_cons h]
      exact leave_nl (v := .tup [_, .int (pos ts r)]) rfl hσ
    | [], h, hn
    | (.op _, n) :: r, h, hn
    | (.dble _ _, n) :: r, h, hn
    | (.log _, n) :: r, h, hn
    | (.chr _, n) :: r, h, hn
    | (.nam _, n) :: r, h, hn => exact absurd rfl hn
  have s2 : ∀ sg : Int, (exs (callP N (d + 1)) N (.cons (.iff (.cmp .eq (.call 21 (.cons (.var 0) (.cons (.var 1) .nil))) (.cst (.str [79, 80]))) (.cons (.aug 1 .add (.cst (.int 1))) .nil) .nil) (.cons (.ret (.tup (.cons (.call 32 (.cons (.idx (.idx (.var 0) (.var 1)) (.cst (.int 0))) (.cons (.idx (.idx (.var 0) (.var 1)) (.cst (.int 1))) (.cons (.var 2) .nil)))) (.cons (.bin .add (.var 1) (.cst (.int 1))) .nil)))) .nil)) [some (tkL ts), some (.int (pos ts l)), some (.int sg)] σ) = exs (callP N (d + 1)) N (.cons (.ret (.tup (.cons (.call 32 (.cons (.idx (.idx (.var 0) (.var 1)) (.cst (.int 0))) (.cons (.idx (.idx (.var 0) (.var 1)) (.cst (.int 1))) (.cons (.var 2) .nil)))) (.cons (.bin .add (.var 1) (.cst (.int 1))) .nil)))) .nil) [some (tkL ts), some (.int (pos ts (opTail l))), some (.int sg)] σ := by
    intro sg
    rw [exs_cons]
    have : ex (callP N (d + 1)) N (.iff (.cmp .eq (.call 21 (.cons (.var 0) (.cons (.var 1) .nil))) (.cst (.str [79, 80]))) (.cons (.aug 1 .add (.cst (.int 1))) .nil) .nil) [some (tkL ts), some (.int (pos ts l)), some (.int sg)] σ = .ok (.next, [some (tkL ts), some (.int (pos ts (opTail l))), some (.int sg)], σ) := by
      simp only [eg, k_kind hl hσ h]
      match l, h with
      | [], h => simp (decide := true) only [eg, kindOf, opTail]
      | (.op _, n) :: r, h => simp (decide := true) only [kindOf, Tok.kd, eg, pos_cons h, opTail]
      | (.int _, n) :: r, h
      | (.real _ _, n) :: r, h
      | (.dble _ _, n) :: r, h
      | (.log _, n) :: r, h
      | (.chr _, n) :: r, h
      | (.nam _, n) :: r, h => simp (decide := true) only [kindOf, Tok.kd, eg, opTail]
    rw [this, ok_bind]
  rw [exs_cons, ex_asg, ev_cst, ok_bind, ok_bind]
  simp only [set0, sets]
  rw [exs_cons]
  cases hm : isOp tMI l with
  | true =>
    have : ex (callP N (d + 1)) N (.iff (.call 22 (.cons (.var 0) (.cons (.var 1) (.cons (.cst (.str [45])) .nil)))) (.cons (.asg 2 (.neg (.cst (.int 1)))) .nil) .nil) [some (tkL ts), some (.int (pos ts l)), some (.int 1)] σ = .ok (.next, [some (tkL ts), some (.int (pos ts l)), some (.int (-1))], σ) := by
      simp only [eg, k_isOp hl hσ h, hm]
    rw [this, ok_bind]
    simp only [s2]
    rw [hm] at hn
    exact key _ _ (by decide) (opTail_suf h) hn
  | false =>
    have : ex (callP N (d + 1)) N (.iff (.call 22 (.cons (.var 0) (.cons (.var 1) (.cons (.cst (.str [45])) .nil)))) (.cons (.asg 2 (.neg (.cst (.int 1)))) .nil) .nil) [some (tkL ts), some (.int (pos ts l)), some (.int 1)] σ = .ok (.next, [some (tkL ts), some (.int (pos ts l)), some (.int 1)], σ) := by
      simp only [eg, k_isOp hl hσ h, hm]
    rw [this, ok_bind]
    simp only [s2]
    rw [hm] at hn
    exact key _ _ (by decide) (opTail_suf h) hn
end
end Mine
namespace Mine
section
variable {N d : Nat} {ts l : Toks} {σ : Store}
theorem forN_step {k : Nat} {B : EX} {n : Nat} {i : Int} {env env' : Env'} {σ σ' : Store} (h : B (env.set k (some (.int i))) σ = .ok (.next, env', σ')) : forN k B (n + 1) i env σ = forN k B n (i + 1) env' σ' := by
  conv => lhs; unfold forN
  rw [h]; rfl
theorem forN_ret {k : Nat} {B : EX} {n : Nat} {i : Int} {env env' : Env'} {σ σ' : Store} {v : PV} (h : B (env.set k (some (.int i))) σ = .ok (.ret v, env', σ')) : forN k B (n + 1) i env σ = .ok (.ret v, env', σ') := by
  conv => lhs; unfold forN
  rw [h]; rfl
theorem forN_cont {k : Nat} {B : EX} {n : Nat} {i : Int} {env env' : Env'} {σ σ' : Store} (h : B (env.set k (some (.int i))) σ = .ok (.cont, env', σ')) : forN k B (n + 1) i env σ = forN k B n (i + 1) env' σ' := by
  conv => lhs; unfold forN
  rw [h]; rfl
theorem forN_nil {k : Nat} {B : EX} {i : Int} {env : Env'} {σ : Store} : forN k B 0 i env σ = .ok (.next, env, σ) := rfl
theorem szL_eq : szL = 16777216 := by simp only [szL, Nat.reducePow]
theorem rng_ok {x y : Int} {b : Nat} (hb : b = 16777216) (hx : x.natAbs ≤ b) (hy : y.natAbs ≤ b) : -1000000000 < x ∧ x < 1000000000 ∧ -1000000000 < y ∧ y < 1000000000 := by omega
theorem ex_forr2 {C : Nat → List PV → Store → Out (PV × Store)} {k : Nat} {lo hi : PE} {b : PSs} {env : Env'} {σ σ1 σ2 : Store} {x y : Int} (h1 : (ev C lo).1 env σ = .ok (.int x, σ1)) (h2 : (ev C hi).1 env σ1 = .ok (.int y, σ2)) (hx : x.natAbs ≤ szL) (hy : y.natAbs ≤ szL) : ex C N (.forr k lo hi b) env σ = forN k (exs C N b) (y - x).toNat x env σ2 := by
  rw [ex_forr, h1, ok_bind, h2, ok_bind]
  exact if_pos (rng_ok szL_eq hx hy)
theorem nab {n b : Nat} (h : n ≤ b) : ((n : Int)).natAbs ≤ b := h
theorem isOp_ne {s t : List Nat} (h : isOp s l = true) (hst : s ≠ t) : isOp t l = false := by
  obtain ⟨n, r, rfl⟩ := isOp_cons h
  simp [isOp, hst]
def bodyClose : PSs := .cons (.iff (.call 22 (.cons (.var 0) (.cons (.var 3) (.cons (.cst (.str [40])) .nil)))) (.cons (.aug 2 .add (.cst (.int 1))) .nil) (.cons (.iff (.call 22 (.cons (.var 0) (.cons (.var 3) (.cons (.cst (.str [41])) .nil)))) (.cons (.aug 2 .sub (.cst (.int 1))) (.cons (.iff (.cmp .eq (.var 2) (.cst (.int 0))) (.cons (.ret (.var 3)) .nil) .nil) .nil)) .nil) .nil)) .nil
theorem for_close {a0 : Int} (hl : ts.length ≤ szL) (hσ : σ.all noLocs = true) (l : Toks) : ∀ (dp : Int) (v3 : Option PV), l <:+ ts →
    ∃ env, forN 3 (exs (callP N (d + 1)) N bodyClose) l.length (pos ts l) [some (tkL ts), some (.int a0), some (.int dp), v3] σ = .ok (match closeAt l dp with | some k => .ret (.int ((pos ts l + k : Nat) : Int)) | none => .next, env, σ) := by
  induction l with
  | nil => intro dp v3 h; exact ⟨_, rfl⟩
  | cons p r ih =>
    intro dp v3 h
    have ih := fun dp v3 => ih dp v3 (suf_tail h)
    rw [List.length_cons]
    cases h1 : isOp tLP (p :: r) with
    | true =>
      obtain ⟨env, ih⟩ := ih (dp + 1) (some (.int (pos ts (p :: r))))
      refine ⟨env, ?_⟩
      rw [forN_step (env' := [some (tkL ts), some (.int a0), some (.int (dp + 1)), some (.int (pos ts (p :: r)))]) (σ' := σ) (by
        unfold bodyClose
        simp only [eg, k_isOp hl hσ h, h1]), ci1, pos_cons h, ih]
      simp only [closeAt, h1]
      cases closeAt r (dp + 1) with
      | none => rfl
      | some k => simp only [Option.map_some, Out.ok.injEq, Prod.mk.injEq, Fl.ret.injEq, PV.int.injEq, and_true, Int.ofNat_inj]; have := pos_cons h; omega
    | false =>
      cases h2 : isOp tRP (p :: r) with
      | true =>
        by_cases hz : dp - 1 = 0
        · refine ⟨[some (tkL ts), some (.int a0), some (.int (dp - 1)), some (.int (pos ts (p :: r)))], ?_⟩
          rw [forN_ret (env' := [some (tkL ts), some (.int a0), some (.int (dp - 1)), some (.int (pos ts (p :: r)))]) (σ' := σ) (v := .int (pos ts (p :: r))) (by
            unfold bodyClose
            simp only [eg, k_isOp hl hσ h, h1, h2, hz])]
          simp only [closeAt, h1, h2, hz, if_true, Nat.add_zero]
        · obtain ⟨env, ih⟩ := ih (dp - 1) (some (.int (pos ts (p :: r))))
          refine ⟨env, ?_⟩
          rw [forN_step (env' := [some (tkL ts), some (.int a0), some (.int (dp - 1)), some (.int (pos ts (p :: r)))]) (σ' := σ) (by
            unfold bodyClose
            simp only [eg, k_isOp hl hσ h, h1, h2, hz]), ci1, pos_cons h, ih]
          simp only [closeAt, h1, h2, hz, if_false]
          cases closeAt r (dp - 1) with
          | none => rfl
          | some k => simp only [Option.map_some, Out.ok.injEq, Prod.mk.injEq, Fl.ret.injEq, PV.int.injEq, and_true, Int.ofNat_inj]; have := pos_cons h; omega
      | false =>
        obtain ⟨env, ih⟩ := ih dp (some (.int (pos ts (p :: r))))
        refine ⟨env, ?_⟩
        rw [forN_step (env' := [some (tkL ts), some (.int a0), some (.int dp), some (.int (pos ts (p :: r)))]) (σ' := σ) (by
          unfold bodyClose
          simp only [eg, k_isOp hl hσ h, h1, h2]), ci1, pos_cons h, ih]
        simp only [closeAt, h1, h2]
        cases closeAt r dp with
        | none => rfl
        | some k => simp only [Option.map_some, Out.ok.injEq, Prod.mk.injEq, Fl.ret.injEq, PV.int.injEq, and_true, Int.ofNat_inj]; have := pos_cons h; omega
theorem k_close (hl : ts.length ≤ szL) (hσ : σ.all noLocs = true) (h : l <:+ ts) : callP N (d + 2) 26 [tkL ts, .int (pos ts l)] σ = match closeAt l 0 with | some k => .ok (.int ((pos ts l + k : Nat) : Int), σ) | none => .exc := by
  rw [callP_plain (f := c26) rfl, runFD_args (env := [some (tkL ts), some (.int (pos ts l)), none, none]) rfl rfl]
  unfold c26
  have hp : pos ts l ≤ ts.length := Nat.sub_le _ _
  have hq : pos ts l + l.length = ts.length := by have := h.length_le; unfold pos; omega
  obtain ⟨env, hf⟩ := for_close (N := N) (d := d) (a0 := pos ts l) hl hσ l 0 none h
  have hc : ((ts.length : Int) - (pos ts l : Int)).toNat = l.length := by clear hl; omega
  rw [exs_cons, ex_asg, ev_cst, ok_bind, ok_bind]
  dsimp only
  rw [exs_cons, ex_forr2 (x := pos ts l) (y := ts.length) (σ1 := σ) (σ2 := σ) rfl (by simp only [eg, len_tk hl]) (nab (Nat.le_trans hp hl)) (nab hl), hc]
  unfold bodyClose at hf
  simp only [set0, sets]
  rw [hf]
  cases closeAt l 0 with
  | none =>
    simp only [eg]
  | some k =>
    simp only [eg]
    exact leave_nl (v := .int _) rfl hσ
theorem closeAt_lt : ∀ (l : Toks) (dp : Int) (k : Nat), closeAt l dp = some k → k < l.length := by
  intro l
  induction l with
  | nil => intro dp k h; cases h
  | cons p r ih =>
    intro dp k h
    have key : ∀ dp', (closeAt r dp').map (· + 1) = some k → k < (p :: r).length := fun dp' h => by
      cases hc : closeAt r dp' with
      | none => rw [hc] at h; cases h
      | some j =>
        rw [hc] at h
        have := ih _ _ hc
        simp only [Option.map_some, Option.some.injEq] at h
        simp only [List.length_cons]; omega
    unfold closeAt at h
    cases h1 : isOp tLP (p :: r) with
    | true => rw [h1] at h; exact key _ h
    | false =>
      rw [h1] at h
      cases h2 : isOp tRP (p :: r) with
      | true =>
        rw [h2] at h
        simp only at h
        by_cases hz : dp - 1 = 0
        · rw [if_pos hz] at h
          simp only [Option.some.injEq] at h
          simp only [List.length_cons]; omega
        · rw [if_neg hz] at h
          exact key _ h
      | false => rw [h2] at h; exact key _ h
def bodyCut : PSs := .cons (.iff (.call 22 (.cons (.var 0) (.cons (.var 4) (.cons (.cst (.str [40])) .nil)))) (.cons (.aug 3 .add (.cst (.int 1))) .nil) (.cons (.iff (.call 22 (.cons (.var 0) (.cons (.var 4) (.cons (.cst (.str [41])) .nil)))) (.cons (.aug 3 .sub (.cst (.int 1))) .nil) (.cons (.iff (.bool true (.cons (.cmp .eq (.var 3) (.cst (.int 0))) (.cons (.call 22 (.cons (.var 0) (.cons (.var 4) (.cons (.cst (.str [58])) .nil)))) .nil))) (.cons (.ret (.cst (.bool true))) .nil) .nil) .nil)) .nil)) .nil
theorem for_cut {a0 v2 : Option PV} (hl : ts.length ≤ szL) (hσ : σ.all noLocs = true) : ∀ (k : Nat) (l : Toks) (dp : Int) (v4 : Option PV), l <:+ ts → k ≤ l.length →
    ∃ env, forN 4 (exs (callP N (d + 1)) N bodyCut) k (pos ts l) [some (tkL ts), a0, v2, some (.int dp), v4] σ = .ok (match cutScan k l dp with | true => .ret (.bool true) | false => .next, env, σ) := by
  intro k
  induction k with
  | zero => intro l dp v4 h _; exact ⟨_, rfl⟩
  | succ k ih =>
    intro l dp v4 h hk
    match l, h, hk with
    | [], h, hk => simp at hk
    | p :: r, h, hk =>
      have hk' : k ≤ r.length := by simpa using hk
      have ih := fun dp v4 => ih r dp v4 (suf_tail h) hk'
      cases h1 : isOp tLP (p :: r) with
      | true =>
        obtain ⟨env, ih⟩ := ih (dp + 1) (some (.int (pos ts (p :: r))))
        refine ⟨env, ?_⟩
        rw [forN_step (env' := [some (tkL ts), a0, v2, some (.int (dp + 1)), some (.int (pos ts (p :: r)))]) (σ' := σ) (by
          unfold bodyCut
          simp only [eg, k_isOp hl hσ h, h1]), ci1, pos_cons h, ih]
        simp only [cutScan, h1]
      | false =>
        cases h2 : isOp tRP (p :: r) with
        | true =>
          obtain ⟨env, ih⟩ := ih (dp - 1) (some (.int (pos ts (p :: r))))
          refine ⟨env, ?_⟩
          rw [forN_step (env' := [some (tkL ts), a0, v2, some (.int (dp - 1)), some (.int (pos ts (p :: r)))]) (σ' := σ) (by
            unfold bodyCut
            simp only [eg, k_isOp hl hσ h, h1, h2]), ci1, pos_cons h, ih]
          simp only [cutScan, h1, h2]
        | false =>
          by_cases hz : dp = 0
          · cases h3 : isOp tCL (p :: r) with
            | true =>
              refine ⟨[some (tkL ts), a0, v2, some (.int dp), some (.int (pos ts (p :: r)))], ?_⟩
              rw [forN_ret (env' := [some (tkL ts), a0, v2, some (.int dp), some (.int (pos ts (p :: r)))]) (σ' := σ) (v := .bool true) (by
                unfold bodyCut
                simp only [eg, k_isOp hl hσ h, h1, h2, h3, hz])]
              simp only [cutScan, h1, h2, h3, hz, and_self, if_true]
            | false =>
              obtain ⟨env, ih⟩ := ih dp (some (.int (pos ts (p :: r))))
              refine ⟨env, ?_⟩
              rw [forN_step (env' := [some (tkL ts), a0, v2, some (.int dp), some (.int (pos ts (p :: r)))]) (σ' := σ) (by
                unfold bodyCut
                simp only [eg, k_isOp hl hσ h, h1, h2, h3, hz]), ci1, pos_cons h, ih]
              simp only [cutScan, h1, h2, h3, Bool.false_eq_true, and_false, if_false]
          · obtain ⟨env, ih⟩ := ih dp (some (.int (pos ts (p :: r))))
            refine ⟨env, ?_⟩
            rw [forN_step (env' := [some (tkL ts), a0, v2, some (.int dp), some (.int (pos ts (p :: r)))]) (σ' := σ) (by
              unfold bodyCut
              simp only [eg, k_isOp hl hσ h, h1, h2, hz]), ci1, pos_cons h, ih]
            simp only [cutScan, h1, h2, hz, false_and, if_false]
theorem k_isCut (hl : ts.length ≤ szL) (hσ : σ.all noLocs = true) (h : l <:+ ts) : callP N (d + 3) 38 [tkL ts, .int (pos ts l)] σ = (isCut l).bind fun b => .ok (.bool b, σ) := by
  rw [callP_plain (f := c38) rfl, runFD_args (env := [some (tkL ts), some (.int (pos ts l)), none, none, none]) rfl rfl]
  unfold c38 isCut
  have hk := k_close (N := N) (d := d) hl hσ h
  cases hc : closeAt l 0 with
  | none =>
    rw [hc] at hk
    simp only [eg, hk]
  | some k =>
    rw [hc] at hk
    dsimp only at hk
    have hlt := closeAt_lt _ _ _ hc
    cases l with
    | nil => exact absurd hlt (Nat.not_lt_zero _)
    | cons p r =>
      have hp : pos ts r ≤ ts.length := Nat.sub_le _ _
      have hpc := pos_cons h
      have hq : pos ts r + r.length = ts.length := by have := (suf_tail h).length_le; unfold pos; omega
      simp only [List.length_cons] at hlt
      obtain ⟨env, hf⟩ := for_cut (N := N) (d := d + 1) (a0 := some (.int (pos ts (p :: r)))) (v2 := some (.int ((pos ts (p :: r) + k : Nat) : Int))) hl hσ (k - 1) r 0 none (suf_tail h) (by omega)
      have e26 : (ev (callP N (d + 2)) (.call 26 (.cons (.var 0) (.cons (.var 1) .nil)))).1 [some (tkL ts), some (.int (pos ts (p :: r))), none, none, none] σ = .ok (.int ((pos ts (p :: r) + k : Nat) : Int), σ) := by
        simp only [ev_call, evs_cons, evs_nil, ev_var, ok_bind, liftO_some, getD0, getDs]
        exact hk
      rw [exs_cons, ex_asg, e26, ok_bind, ok_bind]
      simp only [set0, sets]
      rw [exs_cons, ex_asg, ev_cst, ok_bind, ok_bind]
      simp only [set0, sets]
      have hpk : pos ts (p :: r) + k ≤ ts.length := by clear hl; omega
      have hcn : (((pos ts (p :: r) + k : Nat) : Int) - (pos ts r : Int)).toNat = k - 1 := by clear hl hk; omega
      rw [exs_cons, ex_forr2 (x := pos ts r) (y := ((pos ts (p :: r) + k : Nat) : Int)) (σ1 := σ) (σ2 := σ) (by simp only [eg, hpc]) (by simp only [eg]) (nab (Nat.le_trans hp hl)) (nab (Nat.le_trans hpk hl)), hcn]
      unfold bodyCut at hf
      rw [hf, List.tail_cons]
      cases cutScan (k - 1) r 0 with
      | true =>
        simp only [eg]
        exact leave_nl (v := .bool true) rfl hσ
      | false =>
        simp only [eg]
        exact leave_nl (v := .bool false) rfl hσ
end
end Mine
namespace Mine
/-- what the def parse_binary gives for the plain parser `rec`, from the depth d on -/
def Rok (N : Nat) (ts : Toks) (rec : Nat → Toks → Out (Tr × Toks)) (d : Nat) : Prop :=
  ∀ (d' least : Nat) (l : Toks) (σ : Store), d ≤ d' → 1 ≤ least → l <:+ ts → σ.all noLocs = true → rec least l ≠ .stuck → callP N d' 29 [tkL ts, .int (pos ts l), .int least] σ = cv ts σ Tr.pv (rec least l)
def Suf {α : Type} (f : Toks → Out (α × Toks)) : Prop := ∀ l a l', f l = .ok (a, l') → l' <:+ l
theorem suf_tl {l : Toks} : l.tail <:+ l := by cases l with | nil => exact List.suffix_refl _ | cons p r => exact List.suffix_cons p r
theorem needOp_suf {s : List Nat} {l r : Toks} (h : needOp s l = .ok r) : r <:+ l := by
  unfold needOp at h
  split at h
  · cases h; exact suf_tl
  · cases h
theorem needOp_ns {s : List Nat} {l : Toks} : needOp s l ≠ .stuck := by
  unfold needOp; split <;> nofun
theorem bind_ok {α β : Type} {o : Out α} {f : α → Out β} {b : β} (h : o.bind f = .ok b) : ∃ a, o = .ok a ∧ f a = .ok b := by
  cases o with
  | ok a => exact ⟨a, rfl, h⟩
  | exc => cases h
  | stuck => cases h
theorem bind_ns {α β : Type} {o : Out α} {f : α → Out β} (h : o.bind f ≠ .stuck) : o ≠ .stuck := by
  intro e; rw [e] at h; exact h rfl
section
variable {N d d' : Nat} {ts l : Toks} {σ : Store} {rec recU : Nat → Toks → Out (Tr × Toks)}
theorem pPart_suf (hs : ∀ n, Suf (rec n)) {s : List Nat} {t : TrO} {l' : Toks} (h : pPart rec s l = .ok (t, l')) : l' <:+ l := by
  unfold pPart at h
  split at h
  · cases h; exact List.suffix_refl _
  · obtain ⟨q, h1, h2⟩ := bind_ok h
    cases h2; exact hs _ _ _ _ h1
theorem pCut_suf (hs : ∀ n, Suf (rec n)) {b t : Tr} {l' : Toks} (h : pCut rec b l = .ok (t, l')) : l' <:+ l := by
  unfold pCut at h
  obtain ⟨l1, h1, h⟩ := bind_ok h
  obtain ⟨q2, h2, h⟩ := bind_ok h
  obtain ⟨l3, h3, h⟩ := bind_ok h
  obtain ⟨q4, h4, h⟩ := bind_ok h
  obtain ⟨l5, h5, h⟩ := bind_ok h
  cases h
  exact (needOp_suf h5).trans ((pPart_suf hs h4).trans ((needOp_suf h3).trans ((pPart_suf hs h2).trans (needOp_suf h1))))
theorem argLoop_suf (hs : ∀ n, Suf (rec n)) : ∀ (k : Nat) (l : Toks) (t : Trs) (l' : Toks), argLoop rec k l = .ok (t, l') → l' <:+ l
  | 0, _, _, _, h => by cases h
  | k + 1, l, t, l', h => by
    unfold argLoop at h
    obtain ⟨q, h1, h⟩ := bind_ok h
    split at h
    · obtain ⟨rs, h2, h⟩ := bind_ok h
      cases h
      exact (argLoop_suf hs k _ _ _ h2).trans (suf_tl.trans (hs _ _ _ _ h1))
    · obtain ⟨r, h2, h⟩ := bind_ok h
      cases h
      exact (needOp_suf h2).trans (hs _ _ _ _ h1)
theorem pArgs_suf (hs : ∀ n, Suf (rec n)) {t : Trs} {l' : Toks} (h : pArgs rec l = .ok (t, l')) : l' <:+ l := by
  unfold pArgs at h
  obtain ⟨l1, h1, h⟩ := bind_ok h
  split at h
  · cases h; exact suf_tl.trans (needOp_suf h1)
  · exact (argLoop_suf hs _ _ _ _ h).trans (needOp_suf h1)
theorem pNamed_suf (hs : ∀ n, Suf (rec n)) {s : List Nat} {t : Tr} {l' : Toks} (h : pNamed rec s l = .ok (t, l')) : l' <:+ l := by
  unfold pNamed at h
  split at h
  · cases h; exact List.suffix_refl _
  · obtain ⟨c, _, h⟩ := bind_ok h
    obtain ⟨b, hb, h⟩ := bind_ok h
    have hbs : b.2 <:+ l := by
      cases c with
      | true => cases hb; exact List.suffix_refl _
      | false =>
        obtain ⟨q, hq, hb⟩ := bind_ok hb
        cases hb
        exact pArgs_suf hs hq
    split at h
    · exact (pCut_suf hs h).trans hbs
    · cases h; exact hbs
theorem numOf_suf {sg : Int} {l l' : Toks} {a : Num} (h : numOf sg l = .ok (a, l')) : l' <:+ l := by
  unfold numOf at h
  split at h
  · cases h; exact List.suffix_cons _ _
  · cases h; exact List.suffix_cons _ _
  · cases h
theorem cplxPart_suf {a : Num} {l l' : Toks} (h : cplxPart l = .ok (a, l')) : l' <:+ l := by
  rw [cplxPart_eq] at h
  exact (numOf_suf h).trans (opTail_suf (List.suffix_refl _))
theorem pBracket_suf (hs : ∀ n, Suf (rec n)) {t : Tr} {l' : Toks} (h : pBracket rec l = .ok (t, l')) : l' <:+ l := by
  unfold pBracket at h
  split at h
  · obtain ⟨a, h1, h⟩ := bind_ok h
    obtain ⟨b, h2, h⟩ := bind_ok h
    obtain ⟨r, h3, h⟩ := bind_ok h
    cases h
    exact (needOp_suf h3).trans ((cplxPart_suf h2).trans (suf_tl.trans ((cplxPart_suf h1).trans suf_tl)))
  · obtain ⟨a, h1, h⟩ := bind_ok h
    obtain ⟨r, h3, h⟩ := bind_ok h
    cases h
    exact (needOp_suf h3).trans ((hs _ _ _ _ h1).trans suf_tl)
theorem pPrim_suf (hs : ∀ n, Suf (rec n)) {t : Tr} {l' : Toks} (h : pPrim rec l = .ok (t, l')) : l' <:+ l := by
  unfold pPrim at h
  split at h
  · cases h
  · exact (pNamed_suf hs h).trans (List.suffix_cons _ _)
  · split at h
    · exact pBracket_suf hs h
    · cases h
  all_goals cases h; exact List.suffix_cons _ _
theorem pFirst_suf (hs : ∀ n, Suf (rec n)) (hu : ∀ n, Suf (recU n)) {least : Nat} {t : Tr} {l' : Toks} (h : pFirst rec recU least l = .ok (t, l')) : l' <:+ l := by
  unfold pFirst at h
  split at h
  · split at h
    · cases h
    · obtain ⟨q, h1, h⟩ := bind_ok h
      cases h
      exact (hu _ _ _ _ h1).trans suf_tl
  · split at h
    · split at h
      · cases h
      · obtain ⟨q, h1, h⟩ := bind_ok h
        cases h
        exact (hu _ _ _ _ h1).trans suf_tl
    · exact pPrim_suf hs h
theorem pLoop_suf (hs : ∀ n, Suf (rec n)) {least : Nat} : ∀ (k : Nat) (t : Tr) (w : Bool) (l : Toks) (t' : Tr) (l' : Toks), pLoop rec least k t w l = .ok (t', l') → l' <:+ l
  | 0, _, _, _, _, _, h => by cases h
  | k + 1, t, w, l, t', l', h => by
    unfold pLoop at h
    split at h
    · split at h
      · cases h
      · obtain ⟨q, h1, h⟩ := bind_ok h
        exact (pLoop_suf hs k _ _ _ _ _ h).trans ((hs _ _ _ _ h1).trans suf_tl)
    · cases h; exact List.suffix_refl _
theorem pB_suf : ∀ (n least : Nat), Suf (pB n least)
  | n + 6, least => by
    intro l a l' h
    rw [pB_eq] at h
    obtain ⟨q, h1, h⟩ := bind_ok h
    exact (pLoop_suf (pB_suf (n + 5)) _ _ _ _ _ _ h).trans (pFirst_suf (pB_suf n) (pB_suf (n + 4)) h1)
  | 0, _ | 1, _ | 2, _ | 3, _ | 4, _ | 5, _ => by intro l a l' h; cases h
theorem k_expr (R : Rok N ts rec d) (hd : d ≤ d') (hσ : σ.all noLocs = true) (h : l <:+ ts) (hn : rec 1 l ≠ .stuck) : callP N (d' + 1) 28 [tkL ts, .int (pos ts l)] σ = cv ts σ Tr.pv (rec 1 l) := by
  rw [callP_plain (f := c28) rfl, runFD_args (env := [some (tkL ts), some (.int (pos ts l))]) rfl rfl]
  unfold c28
  have hr : callP N d' 29 [tkL ts, .int (pos ts l), .int 1] σ = _ := R d' 1 l σ hd (Nat.le_refl 1) h hσ hn
  simp only [eg, hr]
  cases rec 1 l with
  | exc => rfl
  | stuck => rfl
  | ok q =>
    simp only [cv, eg]
    exact leave_nl (v := .tup [_, .int (pos ts q.2)]) (by simp [noLoc, noLocs, Tr.pv_nl]) hσ
end
end Mine
namespace Mine
section
variable {C : Nat → List PV → Store → Out (PV × Store)} {N : Nat} {env env' : Env'} {σ σ' : Store} {s : PS} {r : PSs}
theorem exs_next (h : ex C N s env σ = .ok (.next, env', σ')) : exs C N (.cons s r) env σ = exs C N r env' σ' := by
  rw [exs_cons, h]; rfl
theorem exs_exc (h : ex C N s env σ = .exc) : exs C N (.cons s r) env σ = .exc := by
  rw [exs_cons, h]; rfl
theorem exs_ret {v : PV} (h : ex C N s env σ = .ok (.ret v, env', σ')) : exs C N (.cons s r) env σ = .ok (.ret v, env', σ') := by
  rw [exs_cons, h]; rfl
end
theorem not_ns {α β : Type} {o : Out α} {f : α → Out β} {a : α} (h : o.bind f ≠ .stuck) (e : o = .ok a) : f a ≠ .stuck := by
  intro q; apply h; rw [e]; exact q
section
variable {N d d' : Nat} {ts l : Toks} {σ : Store} {rec recU : Nat → Toks → Out (Tr × Toks)}
theorem k_cut (hs : ∀ n, Suf (rec n)) (R : Rok N ts rec d) (hd : d ≤ d' + 1) (hl : ts.length ≤ szL) (hσ : σ.all noLocs = true) (h : l <:+ ts) {b : Tr} (hn : pCut rec b l ≠ .stuck) : callP N (d' + 3) 39 [tkL ts, .int (pos ts l), b.pv] σ = cv ts σ Tr.pv (pCut rec b l) := by
  rw [callP_plain (f := c39) rfl, runFD_args (env := [some (tkL ts), some (.int (pos ts l)), some b.pv, none, none]) rfl rfl]
  unfold c39
  unfold pCut at hn ⊢
  have hA := k_need (N := N) (d := d') (σ := σ) hl hσ h tLP (by decide)
  cases hA1 : needOp tLP l with
  | stuck => exact absurd hA1 needOp_ns
  | exc =>
    rw [hA1] at hA
    rw [exs_exc (by simp only [eg, hA])]; rfl
  | ok l1 =>
    rw [hA1] at hA
    have h1 := (needOp_suf hA1).trans h
    replace hn := not_ns hn hA1
    try dsimp only at hn
    rw [exs_next (env' := [some (tkL ts), some (.int (pos ts l1)), some b.pv, none, none]) (σ' := σ) (by simp only [eg, hA])]
    rw [exs_next (env' := [some (tkL ts), some (.int (pos ts l1)), some b.pv, some .none, none]) (σ' := σ) (by simp only [eg])]
    rw [exs_next (env' := [some (tkL ts), some (.int (pos ts l1)), some b.pv, some .none, some .none]) (σ' := σ) (by simp only [eg])]
    rw [ok_bind]
    have step1 : ex (callP N (d' + 2)) N (.iff (.not (.call 22 (.cons (.var 0) (.cons (.var 1) (.cons (.cst (.str [58])) .nil))))) (.cons (.asgT [3, 1] (.call 28 (.cons (.var 0) (.cons (.var 1) .nil)))) .nil) .nil) [some (tkL ts), some (.int (pos ts l1)), some b.pv, some .none, some .none] σ = match pPart rec tCL l1 with
        | .ok q => .ok (.next, [some (tkL ts), some (.int (pos ts q.2)), some b.pv, some q.1.pv, some .none], σ)
        | .exc => .exc
        | .stuck => .stuck := by
      have hp := bind_ns hn
      unfold pPart at hp ⊢
      rw [ex_iff]
      cases hB : isOp tCL l1 with
      | true => simp only [eg, k_isOp hl hσ h1, hB, TrO.pv]
      | false =>
        rw [hB] at hp
        have hr := k_expr (d' := d' + 1) R (by omega) hσ h1 (bind_ns hp)
        simp only [eg, k_isOp hl hσ h1, hB]
        rw [hr]
        cases rec 1 l1 with
        | exc => simp only [eg, cv]
        | stuck => simp only [eg, cv]
        | ok q => simp only [eg, cv, TrO.pv]
    cases hq : pPart rec tCL l1 with
    | stuck => rw [hq] at hn; exact absurd rfl hn
    | exc =>
      rw [hq] at step1
      rw [exs_exc step1]; rfl
    | ok q =>
      rw [hq] at step1
      have h2 := (pPart_suf hs hq).trans h1
      replace hn := not_ns hn hq
      try dsimp only at hn
      rw [exs_next step1, ok_bind]
      have hA := k_need (N := N) (d := d') (σ := σ) hl hσ h2 tCL (by decide)
      cases hA2 : needOp tCL q.2 with
      | stuck => exact absurd hA2 needOp_ns
      | exc =>
        rw [hA2] at hA
        rw [exs_exc (by simp only [eg, hA])]; rfl
      | ok l3 =>
        rw [hA2] at hA
        have h3 := (needOp_suf hA2).trans h2
        replace hn := not_ns hn hA2
        try dsimp only at hn
        rw [exs_next (env' := [some (tkL ts), some (.int (pos ts l3)), some b.pv, some q.1.pv, some .none]) (σ' := σ) (by simp only [eg, hA])]
        rw [ok_bind]
        have step2 : ex (callP N (d' + 2)) N (.iff (.not (.call 22 (.cons (.var 0) (.cons (.var 1) (.cons (.cst (.str [41])) .nil))))) (.cons (.asgT [4, 1] (.call 28 (.cons (.var 0) (.cons (.var 1) .nil)))) .nil) .nil) [some (tkL ts), some (.int (pos ts l3)), some b.pv, some q.1.pv, some .none] σ = match pPart rec tRP l3 with
            | .ok p => .ok (.next, [some (tkL ts), some (.int (pos ts p.2)), some b.pv, some q.1.pv, some p.1.pv], σ)
            | .exc => .exc
            | .stuck => .stuck := by
          have hp := bind_ns hn
          unfold pPart at hp ⊢
          rw [ex_iff]
          cases hB : isOp tRP l3 with
          | true => simp only [eg, k_isOp hl hσ h3, hB, TrO.pv]
          | false =>
            rw [hB] at hp
            have hr := k_expr (d' := d' + 1) R (by omega) hσ h3 (bind_ns hp)
            simp only [eg, k_isOp hl hσ h3, hB]
            rw [hr]
            cases rec 1 l3 with
            | exc => simp only [eg, cv]
            | stuck => simp only [eg, cv]
            | ok q => simp only [eg, cv, TrO.pv]
        cases hp : pPart rec tRP l3 with
        | stuck => rw [hp] at hn; exact absurd rfl hn
        | exc =>
          rw [hp] at step2
          rw [exs_exc step2]; rfl
        | ok p =>
          rw [hp] at step2
          have h4 := (pPart_suf hs hp).trans h3
          rw [exs_next step2, ok_bind]
          have hA := k_need (N := N) (d := d') (σ := σ) hl hσ h4 tRP (by decide)
          cases hA3 : needOp tRP p.2 with
          | stuck => exact absurd hA3 needOp_ns
          | exc =>
            rw [hA3] at hA
            rw [exs_exc (by simp only [eg, hA])]; rfl
          | ok l5 =>
            rw [hA3] at hA
            rw [exs_ret (v := .tup [.tup [.str [115, 117, 98], b.pv, q.1.pv, p.1.pv], .int (pos ts l5)]) (env' := [some (tkL ts), some (.int (pos ts p.2)), some b.pv, some q.1.pv, some p.1.pv]) (σ' := σ) (by simp only [eg, hA])]
            exact leave_nl (v := .tup [.tup [.str [115, 117, 98], b.pv, q.1.pv, p.1.pv], .int (pos ts l5)]) (by simp [noLoc, noLocs, Tr.pv_nl, TrO.pv_nl]) hσ
end
end Mine
namespace Mine
section
variable {N d d' : Nat} {ts l : Toks} {σ : Store} {rec recU : Nat → Toks → Out (Tr × Toks)}
theorem noLocs_app {a b : List PV} : noLocs (a ++ b) = (noLocs a && noLocs b) := by
  rw [noLocs_all, noLocs_all, noLocs_all, List.all_append]
theorem all_snoc {σ : Store} {l : List PV} (h : σ.all noLocs = true) (hl : noLocs l = true) : (σ ++ [l]).all noLocs = true := by
  rw [List.all_append, h]; simp [hl]
theorem get_snoc {σ : Store} {l : List PV} : (σ ++ [l])[σ.length]? = some l := by simp
theorem set_snoc {σ : Store} {l l' : List PV} : (σ ++ [l]).set σ.length l' = σ ++ [l'] := by simp
/-- a list that the def made is handed back -/
theorem leave_list {σ : Store} {l : List PV} {q : PV} (hl : noLocs l = true) (hq : noLoc q = true) (h : σ.all noLocs = true) : leaveP σ.length (.ret (.tup [.loc σ.length, q])) (σ ++ [l]) = .ok (.tup [.list l, q], σ) := by
  have e1 : freeze σ.length (σ ++ [l]) (.loc σ.length) = some (.list l) := by
    unfold freeze
    rw [if_pos (Nat.le_refl _), get_snoc]
    simp only [hl, if_true]
  have e2 : freeze σ.length (σ ++ [l]) (.tup [.loc σ.length, q]) = some (.tup [.list l, q]) := by
    unfold freeze
    unfold freezes
    rw [e1]
    unfold freezes
    rw [freeze_nl hq]
    unfold freezes
    rfl
  simp only [leaveP, flP, e2]
  rw [if_pos (by simpa using h)]
  simp
def bodyArgs : PSs := (.cons (.iff (.bool true (.cons (.var 2) (.cons (.call 22 (.cons (.var 0) (.cons (.var 1) (.cons (.cst (.str [42])) .nil)))) .nil))) (.cons (.asgT [4, 1] (.call 25 (.cons (.var 0) (.cons (.bin .add (.var 1) (.cst (.int 1))) .nil)))) (.cons (.exp (.me .append (.var 3) (.cons (.tup (.cons (.cst (.str [97, 108, 116])) (.cons (.var 4) .nil))) .nil))) .nil)) (.cons (.asgT [5, 1] (.call 28 (.cons (.var 0) (.cons (.var 1) .nil)))) (.cons (.exp (.me .append (.var 3) (.cons (.var 5) .nil))) .nil))) (.cons (.iff (.not (.call 22 (.cons (.var 0) (.cons (.var 1) (.cons (.cst (.str [44])) .nil))))) (.cons (.ret (.tup (.cons (.var 3) (.cons (.call 23 (.cons (.var 0) (.cons (.var 1) (.cons (.cst (.str [41])) .nil)))) .nil)))) .nil) .nil) (.cons (.aug 1 .add (.cst (.int 1))) .nil)))
theorem while_args (hs : ∀ n, Suf (rec n)) (R : Rok N ts rec d) (hd : d ≤ d' + 1) (hl : ts.length < szL) (hσ : σ.all noLocs = true) : ∀ (k n : Nat) (l : Toks) (acc : List PV) (v4 v5 : Option PV), l <:+ ts → k ≤ n → noLocs acc = true → acc.length + l.length ≤ ts.length → argLoop rec k l ≠ .stuck →
    match argLoop rec k l with
    | .ok q => ∃ env, whileN (ev (callP N (d' + 2)) (.cst (.bool true))).2 (exs (callP N (d' + 2)) N bodyArgs) n [some (tkL ts), some (.int (pos ts l)), some (.bool false), some (.loc σ.length), v4, v5] (σ ++ [acc]) = .ok (.ret (.tup [.loc σ.length, .int (pos ts q.2)]), env, σ ++ [acc ++ q.1.pvs])
    | .exc => whileN (ev (callP N (d' + 2)) (.cst (.bool true))).2 (exs (callP N (d' + 2)) N bodyArgs) n [some (tkL ts), some (.int (pos ts l)), some (.bool false), some (.loc σ.length), v4, v5] (σ ++ [acc]) = .exc
    | .stuck => False := by
  have hl' : ts.length ≤ szL := Nat.le_of_lt hl
  intro k
  induction k with
  | zero => intro n l acc v4 v5 h hk ha hlen hn; exact absurd rfl hn
  | succ k ih =>
    intro n l acc v4 v5 h hk ha hlen hn
    match n, hk with
    | n + 1, hk =>
    have hσ' : (σ ++ [acc]).all noLocs = true := all_snoc hσ ha
    have hT : (ev (callP N (d' + 2)) (.cst (.bool true))).2 [some (tkL ts), some (.int (pos ts l)), some (.bool false), some (.loc σ.length), v4, v5] (σ ++ [acc]) = .ok (true, σ ++ [acc]) := rfl
    unfold argLoop at hn ⊢
    have hr := k_expr (d' := d' + 1) R (by omega) hσ' h (bind_ns hn)
    cases hq : rec 1 l with
    | stuck => rw [hq] at hn; exact absurd rfl hn
    | exc =>
      rw [hq] at hr
      dsimp only [exc_bind]
      refine while_exc hT ?_
      unfold bodyArgs
      rw [exs_exc]
      rw [ex_iff, tr_bool, eva_cons, tr_var]
      simp only [eg, hr, cv]
    | ok q =>
      rw [hq] at hr
      replace hn := not_ns hn hq
      try dsimp only at hn
      have h1 : q.2 <:+ ts := (hs _ _ _ _ hq).trans h
      have hle : q.2.length ≤ l.length := (hs _ _ _ _ hq).length_le
      have hal : acc.length < szL := by clear ih; omega
      have ha2 : noLocs (acc ++ [q.1.pv]) = true := by rw [noLocs_app, ha]; simp [noLocs, Tr.pv_nl]
      have hσ2 : (σ ++ [acc ++ [q.1.pv]]).all noLocs = true := all_snoc hσ ha2
      have e1 : ex (callP N (d' + 2)) N (.iff (.bool true (.cons (.var 2) (.cons (.call 22 (.cons (.var 0) (.cons (.var 1) (.cons (.cst (.str [42])) .nil)))) .nil))) (.cons (.asgT [4, 1] (.call 25 (.cons (.var 0) (.cons (.bin .add (.var 1) (.cst (.int 1))) .nil)))) (.cons (.exp (.me .append (.var 3) (.cons (.tup (.cons (.cst (.str [97, 108, 116])) (.cons (.var 4) .nil))) .nil))) .nil)) (.cons (.asgT [5, 1] (.call 28 (.cons (.var 0) (.cons (.var 1) .nil)))) (.cons (.exp (.me .append (.var 3) (.cons (.var 5) .nil))) .nil))) [some (tkL ts), some (.int (pos ts l)), some (.bool false), some (.loc σ.length), v4, v5] (σ ++ [acc]) = .ok (.next, [some (tkL ts), some (.int (pos ts q.2)), some (.bool false), some (.loc σ.length), v4, some q.1.pv], σ ++ [acc ++ [q.1.pv]]) := by
        simp only [eg, hr, cv, recvP, meP, get_snoc, hal, set_snoc]
      rw [ok_bind]
      cases hB : isOp tCM q.2 with
      | true =>
        rw [hB] at hn
        obtain ⟨m, r, hqr⟩ := isOp_cons hB
        have h2 : r <:+ ts := by rw [hqr] at h1; exact suf_tail h1
        have e2 : exs (callP N (d' + 2)) N bodyArgs [some (tkL ts), some (.int (pos ts l)), some (.bool false), some (.loc σ.length), v4, v5] (σ ++ [acc]) = .ok (.next, [some (tkL ts), some (.int (pos ts r)), some (.bool false), some (.loc σ.length), v4, some q.1.pv], σ ++ [acc ++ [q.1.pv]]) := by
          unfold bodyArgs
          rw [exs_next e1]
          rw [exs_next (env' := [some (tkL ts), some (.int (pos ts q.2)), some (.bool false), some (.loc σ.length), v4, some q.1.pv]) (σ' := σ ++ [acc ++ [q.1.pv]]) (by simp only [eg, k_isOp hl' hσ2 h1, hB])]
          rw [hqr] at h1 ⊢
          simp only [eg, pos_cons h1]
        have ht : q.2.tail = r := by rw [hqr]; rfl
        rw [ht] at hn ⊢
        have ihr := ih n r (acc ++ [q.1.pv]) v4 (some q.1.pv) h2 (by omega) ha2 (by rw [hqr] at hle; simp only [List.length_append, List.length_cons, List.length_nil] at hle ⊢; clear ih; omega) (bind_ns hn)
        rw [while_step hT e2]
        dsimp only
        cases hrs : argLoop rec k r with
        | stuck => rw [hrs] at hn; exact absurd rfl hn
        | exc => rw [hrs] at ihr; exact ihr
        | ok rs =>
          rw [hrs] at ihr
          obtain ⟨env, ihr⟩ := ihr
          refine ⟨env, ?_⟩
          rw [ihr]
          simp only [Trs.pvs, List.append_assoc, List.cons_append, List.nil_append]
      | false =>
        rw [hB] at hn
        have hA := k_need (N := N) (d := d') (σ := σ ++ [acc ++ [q.1.pv]]) hl' hσ2 h1 tRP (by decide)
        dsimp only
        cases hA1 : needOp tRP q.2 with
        | stuck => exact absurd hA1 needOp_ns
        | exc =>
          rw [hA1] at hA
          dsimp only [exc_bind]
          refine while_exc hT ?_
          unfold bodyArgs
          rw [exs_next e1]
          rw [exs_exc]
          simp only [eg, k_isOp hl' hσ2 h1, hB, hA]
        | ok r =>
          rw [hA1] at hA
          dsimp only [ok_bind]
          refine ⟨[some (tkL ts), some (.int (pos ts q.2)), some (.bool false), some (.loc σ.length), v4, some q.1.pv], ?_⟩
          refine while_ret hT ?_
          unfold bodyArgs
          rw [exs_next e1]
          rw [exs_ret]
          simp only [eg, k_isOp hl' hσ2 h1, hB, hA, Trs.pvs]
theorem k_args (hs : ∀ n, Suf (rec n)) (R : Rok N ts rec d) (hd : d ≤ d' + 1) (hl : ts.length < szL) (hN : ts.length < N) (hσ : σ.all noLocs = true) (h : l <:+ ts) (hn : pArgs rec l ≠ .stuck) : callP N (d' + 3) 40 [tkL ts, .int (pos ts l), .bool false] σ = cv ts σ (fun as => .list as.pvs) (pArgs rec l) := by
  have hl' : ts.length ≤ szL := Nat.le_of_lt hl
  rw [callP_plain (f := c40) rfl, runFD_args (env := [some (tkL ts), some (.int (pos ts l)), some (.bool false), none, none, none]) rfl rfl]
  unfold c40
  unfold pArgs at hn ⊢
  have hA := k_need (N := N) (d := d') (σ := σ) hl' hσ h tLP (by decide)
  cases hA1 : needOp tLP l with
  | stuck => exact absurd hA1 needOp_ns
  | exc =>
    rw [hA1] at hA
    rw [exs_exc (by simp only [eg, hA])]; rfl
  | ok l1 =>
    rw [hA1] at hA
    have h1 := (needOp_suf hA1).trans h
    replace hn := not_ns hn hA1
    try dsimp only at hn
    have hσ1 : (σ ++ [[]]).all noLocs = true := all_snoc hσ rfl
    rw [exs_next (env' := [some (tkL ts), some (.int (pos ts l1)), some (.bool false), none, none, none]) (σ' := σ) (by simp only [eg, hA])]
    rw [exs_next (env' := [some (tkL ts), some (.int (pos ts l1)), some (.bool false), some (.loc σ.length), none, none]) (σ' := σ ++ [[]]) (by simp only [eg])]
    rw [ok_bind]
    cases hB : isOp tRP l1 with
    | true =>
      obtain ⟨m, r, rfl⟩ := isOp_cons hB
      rw [exs_ret (v := .tup [.loc σ.length, .int (pos ts r)]) (env' := [some (tkL ts), some (.int (pos ts ((.op tRP, m) :: r))), some (.bool false), some (.loc σ.length), none, none]) (σ' := σ ++ [[]]) (by simp only [eg, k_isOp hl' hσ1 h1, hB, pos_cons h1])]
      exact leave_list (l := []) (q := .int (pos ts r)) rfl rfl hσ
    | false =>
      rw [hB] at hn
      rw [exs_next (env' := [some (tkL ts), some (.int (pos ts l1)), some (.bool false), some (.loc σ.length), none, none]) (σ' := σ ++ [[]]) (by simp only [eg, k_isOp hl' hσ1 h1, hB])]
      have hw := while_args (N := N) (d' := d') hs R hd hl hσ (l1.length + 1) N l1 [] none none h1 (by have := h1.length_le; omega) rfl (by have := h1.length_le; simpa using this) hn
      dsimp only
      rw [exs_cons, ex_whl]
      unfold bodyArgs at hw
      cases hq : argLoop rec (l1.length + 1) l1 with
      | stuck => exact absurd hq hn
      | exc =>
        rw [hq] at hw
        rw [hw]; rfl
      | ok q =>
        rw [hq] at hw
        obtain ⟨env, hw⟩ := hw
        rw [hw]
        simp only [ok_bind, List.nil_append]
        exact leave_list (q := .int (pos ts q.2)) (Trs.pvs_nl _) rfl hσ
end
end Mine
namespace Mine
section
variable {N d d' : Nat} {ts l : Toks} {σ : Store} {rec recU : Nat → Toks → Out (Tr × Toks)}
theorem k_name {s : List Nat} {n : Nat} {r : Toks} (hl : ts.length ≤ szL) (hσ : σ.all noLocs = true) (h : (.nam s, n) :: r <:+ ts) : callP N (d + 2) 24 [tkL ts, .int (pos ts ((.nam s, n) :: r))] σ = .ok (.tup [.str s, .int (pos ts r)], σ) := by
  rw [callP_plain (f := c24) rfl, runFD_args (env := [some (tkL ts), some (.int (pos ts ((.nam s, n) :: r)))]) rfl rfl]
  unfold c24
  rw [exs_next (env' := [some (tkL ts), some (.int (pos ts ((.nam s, n) :: r)))]) (σ' := σ) (by simp (decide := true) only [eg, k_kind hl hσ h, kindOf, Tok.kd])]
  rw [exs_ret (v := .tup [.str s, .int (pos ts r)]) (env' := [some (tkL ts), some (.int (pos ts ((.nam s, n) :: r)))]) (σ' := σ) (by simp only [eg, ix_tk hl h, Tok.vl, pos_cons h])]
  exact leave_nl (v := .tup [.str s, .int (pos ts r)]) rfl hσ
def argsPart (rec : Nat → Toks → Out (Tr × Toks)) (s : List Nat) (l : Toks) : Bool → Out (Tr × Toks)
  | true => .ok (.nam s, l)
  | false => (pArgs rec l).bind fun q => .ok (.ref s q.1, q.2)
theorem pNamed_eq {s : List Nat} : pNamed rec s l = match isOp tLP l with
  | false => .ok (.nam s, l)
  | true => (isCut l).bind fun c => (argsPart rec s l c).bind fun b => match isOp tLP b.2 with
    | true => pCut rec b.1 b.2
    | false => .ok b := by
  unfold pNamed
  cases isOp tLP l with
  | false => rfl
  | true =>
    dsimp only
    congr 1
theorem k_named {s : List Nat} {n : Nat} {r : Toks} (hs : ∀ n, Suf (rec n)) (R : Rok N ts rec d) (hd : d ≤ d' + 1) (hl : ts.length < szL) (hN : ts.length < N) (hσ : σ.all noLocs = true) (h : (.nam s, n) :: r <:+ ts) (hn : pNamed rec s r ≠ .stuck) :
    callP N (d' + 4) 37 [tkL ts, .int (pos ts ((.nam s, n) :: r))] σ = cv ts σ Tr.pv (pNamed rec s r) := by
  have hl' : ts.length ≤ szL := Nat.le_of_lt hl
  have hr := suf_tail h
  rw [callP_plain (f := c37) rfl, runFD_args (env := [some (tkL ts), some (.int (pos ts ((.nam s, n) :: r))), none, none, none]) rfl rfl]
  unfold c37
  rw [exs_next (env' := [some (tkL ts), some (.int (pos ts r)), some (.str s), none, none]) (σ' := σ) (by simp only [eg, k_name (d := d' + 1) hl' hσ h])]
  rw [exs_next (env' := [some (tkL ts), some (.int (pos ts r)), some (.str s), some (Tr.pv (.nam s)), none]) (σ' := σ) (by simp only [eg, Tr.pv])]
  rw [pNamed_eq] at hn ⊢
  cases hB : isOp tLP r with
  | false =>
    rw [exs_ret (v := .tup [Tr.pv (.nam s), .int (pos ts r)]) (env' := [some (tkL ts), some (.int (pos ts r)), some (.str s), some (Tr.pv (.nam s)), none]) (σ' := σ) (by simp only [eg, k_isOp hl' hσ hr, hB])]
    exact leave_nl (v := .tup [Tr.pv (.nam s), .int (pos ts r)]) (by simp [noLoc, noLocs, Tr.pv_nl]) hσ
  | true =>
    rw [hB] at hn
    dsimp only at hn ⊢
    rw [exs_next (env' := [some (tkL ts), some (.int (pos ts r)), some (.str s), some (Tr.pv (.nam s)), none]) (σ' := σ) (by simp only [eg, k_isOp hl' hσ hr, hB])]
    have hc := k_isCut (N := N) (d := d') hl' hσ hr
    cases hcc : isCut r with
    | stuck => rw [hcc] at hn; exact absurd rfl hn
    | exc =>
      rw [hcc] at hc
      rw [exs_exc (by simp only [eg, hc])]; rfl
    | ok c =>
      rw [hcc] at hc hn
      simp only [ok_bind] at hc hn ⊢
      have step : ∃ x, ex (callP N (d' + 3)) N (.iff (.not (.call 38 (.cons (.var 0) (.cons (.var 1) .nil)))) (.cons (.asgT [4, 1] (.call 40 (.cons (.var 0) (.cons (.var 1) (.cons (.cst (.bool false)) .nil))))) (.cons (.asg 3 (.tup (.cons (.cst (.str [114, 101, 102])) (.cons (.var 2) (.cons (.var 4) .nil))))) .nil)) .nil) [some (tkL ts), some (.int (pos ts r)), some (.str s), some (Tr.pv (.nam s)), none] σ = match argsPart rec s r c with
          | .ok b => .ok (.next, [some (tkL ts), some (.int (pos ts b.2)), some (.str s), some b.1.pv, x], σ)
          | .exc => .exc
          | .stuck => .stuck := by
        cases c with
        | true => exact ⟨none, by simp only [eg, hc, argsPart]⟩
        | false =>
          have hp := bind_ns (bind_ns hn)
          have ha := k_args (N := N) (d' := d') hs R hd hl hN hσ hr hp
          cases hq : pArgs rec r with
          | stuck => exact absurd hq hp
          | exc =>
            rw [hq] at ha
            exact ⟨none, by simp only [eg, hc, argsPart, hq, ha, cv]⟩
          | ok q =>
            rw [hq] at ha
            exact ⟨some (.list q.1.pvs), by simp only [eg, hc, argsPart, hq, ha, cv, Tr.pv]⟩
      obtain ⟨x, step⟩ := step
      cases hb : argsPart rec s r c with
      | stuck => rw [hb] at hn; exact absurd rfl hn
      | exc => rw [hb] at step; rw [exs_exc step]; rfl
      | ok b =>
        rw [hb] at step hn
        have hbs : b.2 <:+ ts := by
          refine List.IsSuffix.trans ?_ hr
          cases c with
          | true => cases hb; exact List.suffix_refl _
          | false =>
            obtain ⟨q, hq, hb⟩ := bind_ok hb
            cases hb
            exact pArgs_suf hs hq
        rw [exs_next step]
        simp only [ok_bind] at hn ⊢
        cases hC : isOp tLP b.2 with
        | false =>
          rw [exs_next (env' := [some (tkL ts), some (.int (pos ts b.2)), some (.str s), some b.1.pv, x]) (σ' := σ) (by simp only [eg, k_isOp hl' hσ hbs, hC])]
          rw [exs_ret (v := .tup [b.1.pv, .int (pos ts b.2)]) (env' := [some (tkL ts), some (.int (pos ts b.2)), some (.str s), some b.1.pv, x]) (σ' := σ) (by simp only [eg])]
          exact leave_nl (v := .tup [b.1.pv, .int (pos ts b.2)]) (by simp [noLoc, noLocs, Tr.pv_nl]) hσ
        | true =>
          rw [hC] at hn
          have hk := k_cut (N := N) (d' := d') hs R hd hl' hσ hbs hn
          dsimp only
          cases hq : pCut rec b.1 b.2 with
          | stuck => exact absurd hq hn
          | exc =>
            rw [hq] at hk
            rw [exs_exc (by simp only [eg, k_isOp hl' hσ hbs, hC, hk, cv])]; rfl
          | ok q =>
            rw [hq] at hk
            rw [exs_ret (v := .tup [q.1.pv, .int (pos ts q.2)]) (env' := [some (tkL ts), some (.int (pos ts b.2)), some (.str s), some b.1.pv, x]) (σ' := σ) (by simp only [eg, k_isOp hl' hσ hbs, hC, hk, cv])]
            exact leave_nl (v := .tup [q.1.pv, .int (pos ts q.2)]) (by simp [noLoc, noLocs, Tr.pv_nl]) hσ
theorem k_bracket {p : Tok × Nat} {r : Toks} (hs : ∀ n, Suf (rec n)) (R : Rok N ts rec d) (hd : d ≤ d' + 1) (hl : ts.length < szL) (hσ : σ.all noLocs = true) (h : p :: r <:+ ts) (hn : pBracket rec (p :: r) ≠ .stuck) :
    callP N (d' + 4) 33 [tkL ts, .int (pos ts (p :: r))] σ = cv ts σ Tr.pv (pBracket rec (p :: r)) := by
  have hl' : ts.length ≤ szL := Nat.le_of_lt hl
  have hr := suf_tail h
  rw [callP_plain (f := c33) rfl, runFD_args (env := [some (tkL ts), some (.int (pos ts (p :: r))), none, none, none, none, none]) rfl rfl]
  unfold c33
  unfold pBracket at hn ⊢
  have hc := k_isCplx (N := N) (d := d') hl' hσ h
  rw [List.tail_cons] at hn ⊢
  cases hB : isCplx (p :: r) with
  | true =>
    rw [hB] at hc hn
    dsimp only at hn ⊢
    have h1n := bind_ns hn
    have k1 := k_cplxPart (N := N) (d := d' + 1) hl' hσ hr h1n
    cases hq : cplxPart r with
    | stuck => exact absurd hq h1n
    | exc =>
      rw [hq] at k1
      rw [exs_exc (by simp only [eg, hc, pos_cons h, k1, cv])]; rfl
    | ok a =>
      obtain ⟨a1, a2⟩ := a
      rw [hq] at k1 hn
      simp only [ok_bind] at hn ⊢
      have ha : a2 <:+ ts := (cplxPart_suf hq).trans hr
      have h2n := bind_ns hn
      cases a2 with
      | nil => exact absurd rfl h2n
      | cons p2 r2 =>
        have har := suf_tail ha
        rw [List.tail_cons] at hn h2n ⊢
        have k2 := k_cplxPart (N := N) (d := d' + 1) hl' hσ har h2n
        cases hq2 : cplxPart r2 with
        | stuck => exact absurd hq2 h2n
        | exc =>
          rw [hq2] at k2
          rw [exs_exc (by simp only [eg, hc, pos_cons h, k1, k2, cv, pos_cons ha])]; rfl
        | ok b =>
          rw [hq2] at k2
          simp only [ok_bind]
          have hb : b.2 <:+ ts := (cplxPart_suf hq2).trans har
          have hA := k_need (N := N) (d := d' + 1) (σ := σ) hl' hσ hb tRP (by decide)
          cases hA1 : needOp tRP b.2 with
          | stuck => exact absurd hA1 needOp_ns
          | exc =>
            rw [hA1] at hA
            rw [exs_exc (by simp only [eg, hc, pos_cons h, k1, k2, cv, pos_cons ha, hA])]; rfl
          | ok l3 =>
            rw [hA1] at hA
            rw [exs_ret (v := .tup [Tr.pv (.cplx a1 b.1), .int (pos ts l3)]) (env' := [some (tkL ts), some (.int (pos ts (p :: r))), some a1.pv, some (.int (pos ts (p2 :: r2))), some b.1.pv, some (.int (pos ts b.2)), none]) (σ' := σ) (by simp only [eg, hc, pos_cons h, k1, k2, cv, pos_cons ha, hA, Tr.pv])]
            exact leave_nl (v := .tup [Tr.pv (.cplx a1 b.1), .int (pos ts l3)]) (by simp [noLoc, noLocs, Tr.pv_nl]) hσ
  | false =>
    rw [hB] at hc hn
    dsimp only at hn ⊢
    have h1n := bind_ns hn
    rw [exs_next (env' := [some (tkL ts), some (.int (pos ts (p :: r))), none, none, none, none, none]) (σ' := σ) (by simp only [eg, hc])]
    have k1 := k_expr (d' := d' + 2) R (by omega) hσ hr h1n
    cases hq : rec 1 r with
    | stuck => exact absurd hq h1n
    | exc =>
      rw [hq] at k1
      rw [exs_exc (by simp only [eg, pos_cons h, k1, cv])]; rfl
    | ok a =>
      rw [hq] at k1
      have ha : a.2 <:+ ts := (hs _ _ _ _ hq).trans hr
      simp only [ok_bind]
      rw [exs_next (env' := [some (tkL ts), some (.int (pos ts a.2)), none, none, none, none, some a.1.pv]) (σ' := σ) (by simp only [eg, pos_cons h, k1, cv])]
      have hA := k_need (N := N) (d := d' + 1) (σ := σ) hl' hσ ha tRP (by decide)
      cases hA1 : needOp tRP a.2 with
      | stuck => exact absurd hA1 needOp_ns
      | exc =>
        rw [hA1] at hA
        rw [exs_exc (by simp only [eg, hA])]; rfl
      | ok l3 =>
        rw [hA1] at hA
        rw [exs_ret (v := .tup [a.1.pv, .int (pos ts l3)]) (env' := [some (tkL ts), some (.int (pos ts a.2)), none, none, none, none, some a.1.pv]) (σ' := σ) (by simp only [eg, hA])]
        exact leave_nl (v := .tup [a.1.pv, .int (pos ts l3)]) (by simp [noLoc, noLocs, Tr.pv_nl]) hσ
end
end Mine
namespace Mine
section
variable {N d d' : Nat} {ts l : Toks} {σ : Store} {rec recU : Nat → Toks → Out (Tr × Toks)}
theorem k_prim (hs : ∀ n, Suf (rec n)) (R : Rok N ts rec d) (hd : d ≤ d' + 1) (hl : ts.length < szL) (hN : ts.length < N) (hσ : σ.all noLocs = true) (h : l <:+ ts) (hn : pPrim rec l ≠ .stuck) :
    callP N (d' + 5) 31 [tkL ts, .int (pos ts l)] σ = cv ts σ Tr.pv (pPrim rec l) := by
  have hl' : ts.length ≤ szL := Nat.le_of_lt hl
  rw [callP_plain (f := c31) rfl, runFD_args (env := [some (tkL ts), some (.int (pos ts l)), none]) rfl rfl]
  unfold c31
  rw [exs_next (env' := [some (tkL ts), some (.int (pos ts l)), some (.str (kindOf l))]) (σ' := σ) (by simp only [eg, k_kind (d := d' + 3) hl' hσ h])]
  have done : ∀ (v : Tr) (r : Toks), leaveP σ.length (.ret (.tup [v.pv, .int (pos ts r)])) σ = cv ts σ Tr.pv (.ok (v, r)) := fun v r =>
    leave_nl (v := .tup [v.pv, .int (pos ts r)]) (by simp [noLoc, noLocs, Tr.pv_nl]) hσ
  match l, h, hn with
  | [], h, hn =>
    rw [exs_next (env' := [some (tkL ts), some (.int (pos ts [])), some (.str [])]) (σ' := σ) (by simp (decide := true) only [eg, kindOf])]
    rw [exs_next (env' := [some (tkL ts), some (.int (pos ts [])), some (.str [])]) (σ' := σ) (by simp (decide := true) only [eg, kindOf])]
    rw [exs_exc (by simp (decide := true) only [eg, kindOf])]
    rfl
  | (.nam s, n) :: r, h, hn =>
    have hk := k_named (N := N) (d' := d') hs R hd hl hN hσ h hn
    change _ = cv ts σ Tr.pv (pNamed rec s r)
    have hn' : pNamed rec s r ≠ .stuck := hn
    cases hq : pNamed rec s r with
    | stuck => exact absurd hq hn'
    | exc =>
      rw [hq] at hk
      rw [exs_exc (by simp (decide := true) only [eg, kindOf, Tok.kd, hk, cv])]; rfl
    | ok q =>
      rw [hq] at hk
      rw [exs_ret (v := .tup [q.1.pv, .int (pos ts q.2)]) (env' := [some (tkL ts), some (.int (pos ts ((.nam s, n) :: r))), some (.str [78, 65, 77, 69])]) (σ' := σ) (by simp (decide := true) only [eg, kindOf, Tok.kd, hk, cv])]
      exact done _ _
  | (.op s, n) :: r, h, hn =>
    rw [exs_next (env' := [some (tkL ts), some (.int (pos ts ((.op s, n) :: r))), some (.str [79, 80])]) (σ' := σ) (by simp (decide := true) only [eg, kindOf, Tok.kd])]
    unfold pPrim at hn ⊢
    dsimp only at hn ⊢
    by_cases hs' : s = tLP
    · subst hs'
      rw [if_pos rfl] at hn ⊢
      have hk := k_bracket (N := N) (d' := d') hs R hd hl hσ h hn
      cases hq : pBracket rec ((.op tLP, n) :: r) with
      | stuck => exact absurd hq hn
      | exc =>
        rw [hq] at hk
        rw [exs_exc (by simp (decide := true) only [eg, ix_tk hl' h, Tok.vl, hk, cv])]; rfl
      | ok q =>
        rw [hq] at hk
        rw [exs_ret (v := .tup [q.1.pv, .int (pos ts q.2)]) (env' := [some (tkL ts), some (.int (pos ts ((.op tLP, n) :: r))), some (.str [79, 80])]) (σ' := σ) (by simp (decide := true) only [eg, ix_tk hl' h, Tok.vl, hk, cv])]
        exact done _ _
    · rw [if_neg hs']
      rw [exs_next (env' := [some (tkL ts), some (.int (pos ts ((.op s, n) :: r))), some (.str [79, 80])]) (σ' := σ) (by simp (decide := true) only [eg, ix_tk hl' h, Tok.vl, hs'])]
      rw [exs_exc (by simp (decide := true) only [eg])]; rfl
  | (.int v, n) :: r, h, hn =>
    rw [exs_next (env' := [some (tkL ts), some (.int (pos ts ((.int v, n) :: r))), some (.str [73, 78, 84])]) (σ' := σ) (by simp (decide := true) only [eg, kindOf, Tok.kd])]
    rw [exs_next (env' := [some (tkL ts), some (.int (pos ts ((.int v, n) :: r))), some (.str [73, 78, 84])]) (σ' := σ) (by simp (decide := true) only [eg])]
    rw [exs_next (env' := [some (tkL ts), some (.int (pos ts ((.int v, n) :: r))), some (.str [73, 78, 84])]) (σ' := σ) (by simp (decide := true) only [eg])]
    rw [exs_ret (v := .tup [Tr.pv (.int v), .int (pos ts r)]) (env' := [some (tkL ts), some (.int (pos ts ((.int v, n) :: r))), some (.str [73, 78, 84])]) (σ' := σ) (by simp (decide := true) only [eg, ix_tk hl' h, Tok.vl, k_int (d := d' + 3) (sg := 1) hσ (by decide), pos_cons h, Tr.pv, Int.one_mul])]
    exact done (.int v) r
  | (.real m e, n) :: r, h, hn =>
    rw [exs_next (env' := [some (tkL ts), some (.int (pos ts ((.real m e, n) :: r))), some (.str [82, 69, 65, 76])]) (σ' := σ) (by simp (decide := true) only [eg, kindOf, Tok.kd])]
    rw [exs_next (env' := [some (tkL ts), some (.int (pos ts ((.real m e, n) :: r))), some (.str [82, 69, 65, 76])]) (σ' := σ) (by simp (decide := true) only [eg])]
    rw [exs_next (env' := [some (tkL ts), some (.int (pos ts ((.real m e, n) :: r))), some (.str [82, 69, 65, 76])]) (σ' := σ) (by simp (decide := true) only [eg])]
    rw [exs_ret (v := .tup [Tr.pv (.real m e), .int (pos ts r)]) (env' := [some (tkL ts), some (.int (pos ts ((.real m e, n) :: r))), some (.str [82, 69, 65, 76])]) (σ' := σ) (by simp (decide := true) only [eg, ix_tk hl' h, Tok.vl, k_real (d := d' + 3) (sg := 1) hσ (by decide), pos_cons h, Tr.pv, Int.one_mul])]
    exact done (.real m e) r
  | (.dble m e, n) :: r, h, hn =>
    rw [exs_next (env' := [some (tkL ts), some (.int (pos ts ((.dble m e, n) :: r))), some (.str [68, 66, 76, 69])]) (σ' := σ) (by simp (decide := true) only [eg, kindOf, Tok.kd])]
    rw [exs_next (env' := [some (tkL ts), some (.int (pos ts ((.dble m e, n) :: r))), some (.str [68, 66, 76, 69])]) (σ' := σ) (by simp (decide := true) only [eg])]
    rw [exs_next (env' := [some (tkL ts), some (.int (pos ts ((.dble m e, n) :: r))), some (.str [68, 66, 76, 69])]) (σ' := σ) (by simp (decide := true) only [eg])]
    rw [exs_ret (v := .tup [Tr.pv (.dble m e), .int (pos ts r)]) (env' := [some (tkL ts), some (.int (pos ts ((.dble m e, n) :: r))), some (.str [68, 66, 76, 69])]) (σ' := σ) (by simp (decide := true) only [eg, ix_tk hl' h, Tok.vl, k_dble (d := d' + 3) (sg := 1) hσ (by decide), pos_cons h, Tr.pv, Int.one_mul])]
    exact done (.dble m e) r
  | (.log b, n) :: r, h, hn =>
    rw [exs_next (env' := [some (tkL ts), some (.int (pos ts ((.log b, n) :: r))), some (.str [76, 79, 71])]) (σ' := σ) (by simp (decide := true) only [eg, kindOf, Tok.kd])]
    rw [exs_next (env' := [some (tkL ts), some (.int (pos ts ((.log b, n) :: r))), some (.str [76, 79, 71])]) (σ' := σ) (by simp (decide := true) only [eg])]
    rw [exs_next (env' := [some (tkL ts), some (.int (pos ts ((.log b, n) :: r))), some (.str [76, 79, 71])]) (σ' := σ) (by simp (decide := true) only [eg])]
    rw [exs_ret (v := .tup [Tr.pv (.log b), .int (pos ts r)]) (env' := [some (tkL ts), some (.int (pos ts ((.log b, n) :: r))), some (.str [76, 79, 71])]) (σ' := σ) (by simp (decide := true) only [eg, ix_tk hl' h, Tok.vl, k_log (d := d' + 3) (sg := 1) hσ, pos_cons h, Tr.pv])]
    exact done (.log b) r
  | (.chr s, n) :: r, h, hn =>
    rw [exs_next (env' := [some (tkL ts), some (.int (pos ts ((.chr s, n) :: r))), some (.str [67, 72, 65, 82])]) (σ' := σ) (by simp (decide := true) only [eg, kindOf, Tok.kd])]
    rw [exs_next (env' := [some (tkL ts), some (.int (pos ts ((.chr s, n) :: r))), some (.str [67, 72, 65, 82])]) (σ' := σ) (by simp (decide := true) only [eg])]
    rw [exs_next (env' := [some (tkL ts), some (.int (pos ts ((.chr s, n) :: r))), some (.str [67, 72, 65, 82])]) (σ' := σ) (by simp (decide := true) only [eg])]
    rw [exs_ret (v := .tup [Tr.pv (.chr s), .int (pos ts r)]) (env' := [some (tkL ts), some (.int (pos ts ((.chr s, n) :: r))), some (.str [67, 72, 65, 82])]) (σ' := σ) (by simp (decide := true) only [eg, ix_tk hl' h, Tok.vl, k_chr (d := d' + 3) (sg := 1) hσ, pos_cons h, Tr.pv])]
    exact done (.chr s) r
theorem le4 (n : Nat) : ((4 : Int) < (n : Int)) = (4 < n) := by simp only [eq_iff_iff]; omega
theorem le7 (n : Nat) : ((7 : Int) < (n : Int)) = (7 < n) := by simp only [eq_iff_iff]; omega
theorem k_first {least : Nat} (hs : ∀ n, Suf (rec n)) (R : Rok N ts rec d) (hd : d ≤ d' + 1) (hu : ∀ n, Suf (recU n)) (RU : Rok N ts recU (d + 4)) (hl : ts.length < szL) (hN : ts.length < N) (hσ : σ.all noLocs = true) (h : l <:+ ts) (hn : pFirst rec recU least l ≠ .stuck) :
    callP N (d' + 6) 30 [tkL ts, .int (pos ts l), .int least] σ = cv ts σ Tr.pv (pFirst rec recU least l) := by
  have hl' : ts.length ≤ szL := Nat.le_of_lt hl
  rw [callP_plain (f := c30) rfl, runFD_args (env := [some (tkL ts), some (.int (pos ts l)), some (.int least), none, none]) rfl rfl]
  unfold c30
  unfold pFirst at hn ⊢
  have done : ∀ (v : Tr) (r : Toks), leaveP σ.length (.ret (.tup [v.pv, .int (pos ts r)])) σ = cv ts σ Tr.pv (.ok (v, r)) := fun v r =>
    leave_nl (v := .tup [v.pv, .int (pos ts r)]) (by simp [noLoc, noLocs, Tr.pv_nl]) hσ
  cases h1 : isOp tNOT l with
  | true =>
    rw [h1] at hn
    obtain ⟨n, r, rfl⟩ := isOp_cons h1
    rw [List.tail_cons] at hn ⊢
    dsimp only at hn ⊢
    by_cases hL : 4 < least
    · rw [if_pos hL]
      rw [exs_exc (by simp only [eg, k_isOp hl' hσ h, h1, le4, hL])]; rfl
    · rw [if_neg hL] at hn ⊢
      have hr := suf_tail h
      have hk : callP N (d' + 5) 29 [tkL ts, .int (pos ts r), .int (4 + 1)] σ = _ := RU (d' + 5) 5 r σ (by omega) (by decide) hr hσ (bind_ns hn)
      cases hq : recU 5 r with
      | stuck => rw [hq] at hn; exact absurd rfl hn
      | exc =>
        rw [hq] at hk
        rw [exs_exc (by simp only [eg, k_isOp hl' hσ h, h1, le4, hL, pos_cons h, hk, cv])]; rfl
      | ok q =>
        rw [hq] at hk
        rw [exs_ret (v := .tup [Tr.pv (.un tNOT q.1), .int (pos ts q.2)]) (env' := [some (tkL ts), some (.int (pos ts q.2)), some (.int least), some q.1.pv, none]) (σ' := σ) (by simp only [eg, k_isOp hl' hσ h, h1, le4, hL, pos_cons h, hk, cv, Tr.pv])]
        exact done (.un tNOT q.1) q.2
  | false =>
    rw [h1] at hn
    dsimp only at hn ⊢
    rw [exs_next (env' := [some (tkL ts), some (.int (pos ts l)), some (.int least), none, none]) (σ' := σ) (by simp only [eg, k_isOp hl' hσ h, h1])]
    cases h2 : isOp tPL l || isOp tMI l with
    | true =>
      rw [h2] at hn
      dsimp only at hn ⊢
      have hc : ∃ s n r, l = (.op s, n) :: r := by
        rcases Bool.or_eq_true_iff.mp h2 with q | q
        · obtain ⟨n, r, e⟩ := isOp_cons q; exact ⟨_, n, r, e⟩
        · obtain ⟨n, r, e⟩ := isOp_cons q; exact ⟨_, n, r, e⟩
      have ht : (ev (callP N (d' + 5)) (.bool false (.cons (.call 22 (.cons (.var 0) (.cons (.var 1) (.cons (.cst (.str [43])) .nil)))) (.cons (.call 22 (.cons (.var 0) (.cons (.var 1) (.cons (.cst (.str [45])) .nil)))) .nil)))).2 [some (tkL ts), some (.int (pos ts l)), some (.int least), none, none] σ = .ok (true, σ) := by
        cases h3 : isOp tPL l with
        | true => simp only [eg, k_isOp hl' hσ h, h3]
        | false =>
          rw [h3, Bool.false_or] at h2
          simp only [eg, k_isOp hl' hσ h, h3, h2]
      obtain ⟨s, n, r, rfl⟩ := hc
      rw [List.tail_cons] at hn ⊢
      change _ = cv ts σ Tr.pv (if 7 < least then .exc else (recU 8 r).bind fun q => .ok (.un s q.1, q.2))
      by_cases hL : 7 < least
      · rw [if_pos hL]
        rw [exs_exc (by rw [ex_iff, ht, ok_bind]; simp only [eg, le7, hL])]; rfl
      · rw [if_neg hL] at hn ⊢
        have hr := suf_tail h
        have hk : callP N (d' + 5) 29 [tkL ts, .int (pos ts r), .int (7 + 1)] σ = _ := RU (d' + 5) 8 r σ (by omega) (by decide) hr hσ (bind_ns hn)
        cases hq : recU 8 r with
        | stuck => rw [hq] at hn; exact absurd rfl hn
        | exc =>
          rw [hq] at hk
          rw [exs_exc (by rw [ex_iff, ht, ok_bind]; simp only [eg, le7, hL, pos_cons h, hk, cv, ix_tk hl' h, Tok.vl])]; rfl
        | ok q =>
          rw [hq] at hk
          rw [exs_ret (v := .tup [Tr.pv (.un s q.1), .int (pos ts q.2)]) (env' := [some (tkL ts), some (.int (pos ts q.2)), some (.int least), some q.1.pv, some (.str s)]) (σ' := σ) (by rw [ex_iff, ht, ok_bind]; simp only [eg, le7, hL, pos_cons h, hk, cv, Tr.pv, ix_tk hl' h, Tok.vl])]
          exact done (.un s q.1) q.2
    | false =>
      rw [h2] at hn
      dsimp only at hn ⊢
      obtain ⟨h3, h4⟩ := Bool.or_eq_false_iff.mp h2
      rw [exs_next (env' := [some (tkL ts), some (.int (pos ts l)), some (.int least), none, none]) (σ' := σ) (by simp only [eg, k_isOp hl' hσ h, h3, h4])]
      have hk := k_prim (N := N) (d' := d') hs R hd hl hN hσ h hn
      cases hq : pPrim rec l with
      | stuck => exact absurd hq hn
      | exc =>
        rw [hq] at hk
        rw [exs_exc (by simp only [eg, hk, cv])]; rfl
      | ok q =>
        rw [hq] at hk
        rw [exs_ret (v := .tup [q.1.pv, .int (pos ts q.2)]) (env' := [some (tkL ts), some (.int (pos ts l)), some (.int least), none, none]) (σ' := σ) (by simp only [eg, hk, cv])]
        exact done _ _
end
end Mine
namespace Mine
section
variable {N d d' : Nat} {ts l : Toks} {σ : Store} {rec recU : Nat → Toks → Out (Tr × Toks)}
def bodyBin : PSs := (.cons (.asg 5 (.call 27 (.cons (.var 0) (.cons (.var 1) .nil)))) (.cons (.asg 6 (.idx (.idx (.var 0) (.var 1)) (.cst (.int 1)))) (.cons (.iff (.bool true (.cons (.cmp .eq (.var 5) (.cst (.int 5))) (.cons (.var 4) .nil))) (.cons (.raise 1 (.cons (.cst (.str [97, 32, 114, 101, 108, 97, 116, 105, 111, 110, 32, 98, 101, 104, 105, 110, 100, 32, 97, 32, 114, 101, 108, 97, 116, 105, 111, 110])) .nil)) .nil) .nil) (.cons (.iff (.cmp .eq (.var 5) (.cst (.int 9))) (.cons (.asgT [7, 1] (.call 29 (.cons (.var 0) (.cons (.bin .add (.var 1) (.cst (.int 1))) (.cons (.cst (.int 9)) .nil))))) .nil) (.cons (.asgT [7, 1] (.call 29 (.cons (.var 0) (.cons (.bin .add (.var 1) (.cst (.int 1))) (.cons (.bin .add (.var 5) (.cst (.int 1))) .nil))))) .nil)) (.cons (.asg 3 (.tup (.cons (.cst (.str [98, 105, 110])) (.cons (.var 6) (.cons (.var 3) (.cons (.var 7) .nil)))))) (.cons (.asg 4 (.cmp .eq (.var 5) (.cst (.int 5)))) .nil))))))
def testBin : PE := .cmp .ge (.call 27 (.cons (.var 0) (.cons (.var 1) .nil))) (.var 2)
theorem eq5 (n : Nat) : ((n : Int) = 5) = (n = 5) := by simp only [eq_iff_iff]; omega
theorem eq9 (n : Nat) : ((n : Int) = 9) = (n = 9) := by simp only [eq_iff_iff]; omega
theorem prio_cons (h : 1 ≤ prio l) : ∃ s n r, l = (.op s, n) :: r := by
  match l, h with
  | (.op s, n) :: r, _ => exact ⟨s, n, r, rfl⟩
theorem while_bin {least : Nat} (h0 : 1 ≤ least) (hs : ∀ n, Suf (rec n)) (R : Rok N ts rec d) (hd : d ≤ d' + 2) (hl : ts.length < szL) (hσ : σ.all noLocs = true) : ∀ (k n : Nat) (t : Tr) (was : Bool) (l : Toks) (v5 v6 v7 : Option PV), l <:+ ts → k ≤ n → pLoop rec least k t was l ≠ .stuck →
    match pLoop rec least k t was l with
    | .ok q => ∃ w4 w5 w6 w7, whileN (ev (callP N (d' + 2)) testBin).2 (exs (callP N (d' + 2)) N bodyBin) n [some (tkL ts), some (.int (pos ts l)), some (.int least), some t.pv, some (.bool was), v5, v6, v7] σ = .ok (.next, [some (tkL ts), some (.int (pos ts q.2)), some (.int least), some q.1.pv, w4, w5, w6, w7], σ)
    | .exc => whileN (ev (callP N (d' + 2)) testBin).2 (exs (callP N (d' + 2)) N bodyBin) n [some (tkL ts), some (.int (pos ts l)), some (.int least), some t.pv, some (.bool was), v5, v6, v7] σ = .exc
    | .stuck => False := by
  have hl' : ts.length ≤ szL := Nat.le_of_lt hl
  intro k
  induction k with
  | zero => intro n t was l v5 v6 v7 h hk hn; exact absurd rfl hn
  | succ k ih =>
    intro n t was l v5 v6 v7 h hk hn
    match n, hk with
    | n + 1, hk =>
    have hT : (ev (callP N (d' + 2)) testBin).2 [some (tkL ts), some (.int (pos ts l)), some (.int least), some t.pv, some (.bool was), v5, v6, v7] σ = .ok (decide (least ≤ prio l), σ) := by
      unfold testBin
      simp only [eg, k_prio hl' hσ h]
    unfold pLoop at hn ⊢
    by_cases hp : least ≤ prio l
    · rw [if_pos hp] at hn ⊢
      rw [decide_eq_true hp] at hT
      obtain ⟨s, m, r, rfl⟩ := prio_cons (Nat.le_trans h0 hp)
      have hr := suf_tail h
      rw [List.tail_cons] at hn ⊢
      by_cases hw : prio ((.op s, m) :: r) = 5 ∧ was = true
      · rw [if_pos hw]
        dsimp only
        refine while_exc hT ?_
        unfold bodyBin
        rw [exs_next (env' := [some (tkL ts), some (.int (pos ts ((.op s, m) :: r))), some (.int least), some t.pv, some (.bool was), some (.int (prio ((.op s, m) :: r))), v6, v7]) (σ' := σ) (by simp only [eg, k_prio hl' hσ h])]
        rw [exs_next (env' := [some (tkL ts), some (.int (pos ts ((.op s, m) :: r))), some (.int least), some t.pv, some (.bool was), some (.int (prio ((.op s, m) :: r))), some (.str s), v7]) (σ' := σ) (by simp only [eg, ix_tk hl' h, Tok.vl])]
        rw [exs_exc (by simp only [eg, hw, eq5])]
      · rw [if_neg hw] at hn ⊢
        have hp1 : 1 ≤ prio ((.op s, m) :: r) := Nat.le_trans h0 hp
        generalize hpr : prio ((.op s, m) :: r) = lv at *
        have hk29 := R (d' + 2) (if lv = 9 then 9 else lv + 1) r σ (by omega) (by split <;> omega) hr hσ (bind_ns hn)
        have e1 : ∀ (X : PSs), exs (callP N (d' + 2)) N (.cons (.asg 5 (.call 27 (.cons (.var 0) (.cons (.var 1) .nil)))) (.cons (.asg 6 (.idx (.idx (.var 0) (.var 1)) (.cst (.int 1)))) (.cons (.iff (.bool true (.cons (.cmp .eq (.var 5) (.cst (.int 5))) (.cons (.var 4) .nil))) (.cons (.raise 1 (.cons (.cst (.str [97, 32, 114, 101, 108, 97, 116, 105, 111, 110, 32, 98, 101, 104, 105, 110, 100, 32, 97, 32, 114, 101, 108, 97, 116, 105, 111, 110])) .nil)) .nil) .nil) X))) [some (tkL ts), some (.int (pos ts ((.op s, m) :: r))), some (.int least), some t.pv, some (.bool was), v5, v6, v7] σ = exs (callP N (d' + 2)) N X [some (tkL ts), some (.int (pos ts ((.op s, m) :: r))), some (.int least), some t.pv, some (.bool was), some (.int lv), some (.str s), v7] σ := by
          intro X
          have hkp := k_prio (N := N) (d := d') hl' hσ h
          rw [hpr] at hkp
          rw [exs_next (env' := [some (tkL ts), some (.int (pos ts ((.op s, m) :: r))), some (.int least), some t.pv, some (.bool was), some (.int lv), v6, v7]) (σ' := σ) (by simp only [eg, hkp])]
          rw [exs_next (env' := [some (tkL ts), some (.int (pos ts ((.op s, m) :: r))), some (.int least), some t.pv, some (.bool was), some (.int lv), some (.str s), v7]) (σ' := σ) (by simp only [eg, ix_tk hl' h, Tok.vl])]
          rw [exs_next (env' := [some (tkL ts), some (.int (pos ts ((.op s, m) :: r))), some (.int least), some t.pv, some (.bool was), some (.int lv), some (.str s), v7]) (σ' := σ) ?_]
          by_cases h5 : lv = 5
          · have hwf : was = false := by cases was with | false => rfl | true => exact absurd ⟨h5, rfl⟩ hw
            simp only [eg, eq5, h5, hwf]
          · simp only [eg, eq5, h5]
        have e2 : ex (callP N (d' + 2)) N (.iff (.cmp .eq (.var 5) (.cst (.int 9))) (.cons (.asgT [7, 1] (.call 29 (.cons (.var 0) (.cons (.bin .add (.var 1) (.cst (.int 1))) (.cons (.cst (.int 9)) .nil))))) .nil) (.cons (.asgT [7, 1] (.call 29 (.cons (.var 0) (.cons (.bin .add (.var 1) (.cst (.int 1))) (.cons (.bin .add (.var 5) (.cst (.int 1))) .nil))))) .nil)) [some (tkL ts), some (.int (pos ts ((.op s, m) :: r))), some (.int least), some t.pv, some (.bool was), some (.int lv), some (.str s), v7] σ = match rec (if lv = 9 then 9 else lv + 1) r with
            | .ok q => .ok (.next, [some (tkL ts), some (.int (pos ts q.2)), some (.int least), some t.pv, some (.bool was), some (.int lv), some (.str s), some q.1.pv], σ)
            | .exc => .exc
            | .stuck => .stuck := by
          by_cases h9 : lv = 9
          · subst h9
            rw [if_pos rfl] at hk29 ⊢
            have hk : callP N (d' + 2) 29 [tkL ts, .int (pos ts r), .int 9] σ = _ := hk29
            have h99 : ((9 : Nat) : Int) = 9 := rfl
            simp only [eg, eq9, pos_cons h, hk, h99]
            cases rec 9 r with
            | ok q => simp only [eg, cv]
            | exc => simp only [eg, cv]
            | stuck => simp only [eg, cv]
          · rw [if_neg h9] at hk29 ⊢
            simp only [eg, eq9, h9, pos_cons h, hk29]
            cases rec (lv + 1) r with
            | ok q => simp only [eg, cv]
            | exc => simp only [eg, cv]
            | stuck => simp only [eg, cv]
        cases hq : rec (if lv = 9 then 9 else lv + 1) r with
        | stuck => rw [hq] at hn; exact absurd rfl hn
        | exc =>
          rw [hq] at e2
          dsimp only [exc_bind]
          refine while_exc hT ?_
          unfold bodyBin
          rw [e1, exs_exc e2]
        | ok q =>
          rw [hq] at e2 hn
          simp only [ok_bind] at hn ⊢
          have hqs : q.2 <:+ ts := (hs _ _ _ _ hq).trans hr
          have e3 : exs (callP N (d' + 2)) N bodyBin [some (tkL ts), some (.int (pos ts ((.op s, m) :: r))), some (.int least), some t.pv, some (.bool was), v5, v6, v7] σ = .ok (.next, [some (tkL ts), some (.int (pos ts q.2)), some (.int least), some (Tr.pv (.bin s t q.1)), some (.bool (decide (lv = 5))), some (.int lv), some (.str s), some q.1.pv], σ) := by
            unfold bodyBin
            rw [e1, exs_next e2]
            simp only [eg, eq5, Tr.pv]
          rw [while_step hT e3]
          exact ih n _ _ q.2 _ _ _ hqs (by omega) hn
    · rw [if_neg hp]
      rw [decide_eq_false hp] at hT
      dsimp only
      exact ⟨_, _, _, _, while_stop hT⟩
theorem pB_Rok {N : Nat} {ts : Toks} (hl : ts.length < szL) (hN : ts.length < N) : ∀ n, Rok N ts (pB n) (n + 1)
  | n + 6 => by
    have hl' : ts.length ≤ szL := Nat.le_of_lt hl
    have R0 := pB_Rok hl hN n
    have R4 := pB_Rok hl hN (n + 4)
    have R5 := pB_Rok hl hN (n + 5)
    intro D least l σ hd h0 h hσ hn
    obtain ⟨e, he, rfl⟩ : ∃ e, n ≤ e ∧ D = e + 7 := ⟨D - 7, by omega, by omega⟩
    rw [callP_plain (f := c29) rfl, runFD_args (env := [some (tkL ts), some (.int (pos ts l)), some (.int least), none, none, none, none, none]) rfl rfl]
    unfold c29
    rw [pB_eq] at hn ⊢
    have hf := bind_ns hn
    have hk := k_first (N := N) (d' := e) (d := n + 1) (pB_suf n) R0 (by omega) (pB_suf (n + 4)) R4 hl hN hσ h hf
    cases hq : pFirst (pB n) (pB (n + 4)) least l with
    | stuck => exact absurd hq hf
    | exc =>
      rw [hq] at hk
      rw [exs_exc (by simp only [eg, hk, cv])]; rfl
    | ok q =>
      rw [hq] at hk
      replace hn := not_ns hn hq
      try dsimp only at hn
      have hqs : q.2 <:+ ts := (pFirst_suf (pB_suf n) (pB_suf (n + 4)) hq).trans h
      rw [exs_next (env' := [some (tkL ts), some (.int (pos ts q.2)), some (.int least), some q.1.pv, none, none, none, none]) (σ' := σ) (by simp only [eg, hk, cv])]
      rw [exs_next (env' := [some (tkL ts), some (.int (pos ts q.2)), some (.int least), some q.1.pv, some (.bool false), none, none, none]) (σ' := σ) (by simp only [eg])]
      have hw := while_bin (N := N) (d' := e + 4) (least := least) h0 (pB_suf (n + 5)) R5 (by omega) hl hσ (l.length + 1) N q.1 false q.2 none none none hqs (by have := h.length_le; omega) hn
      rw [ok_bind]
      cases hp : pLoop (pB (n + 5)) least (l.length + 1) q.1 false q.2 with
      | stuck => exact absurd hp hn
      | exc =>
        rw [hp] at hw
        rw [exs_exc (by rw [ex_whl]; exact hw)]; rfl
      | ok p =>
        rw [hp] at hw
        obtain ⟨w4, w5, w6, w7, hw⟩ := hw
        rw [exs_next (by rw [ex_whl]; exact hw)]
        rw [exs_ret (v := .tup [p.1.pv, .int (pos ts p.2)]) (σ' := σ) (by simp only [eg]; rfl)]
        exact leave_nl (v := .tup [p.1.pv, .int (pos ts p.2)]) (by simp [noLoc, noLocs, Tr.pv_nl]) hσ
  | 0 | 1 | 2 | 3 | 4 | 5 => by intro d' least l σ hd h0 h hσ hn; exact absurd rfl hn
/-- the whole text's tree -/
theorem k_whole {N n d : Nat} {ts : Toks} (hl : ts.length < szL) (hN : ts.length < N) (hd : n + 2 ≤ d) (hn : pB n 1 ts ≠ .stuck) : callP N (d + 1) 41 [tkL ts] [] = match pB n 1 ts with
    | .ok q => (match q.2 with | [] => .ok (q.1.pv, []) | _ :: _ => .exc)
    | .exc => .exc
    | .stuck => .stuck := by
  have hl' : ts.length ≤ szL := Nat.le_of_lt hl
  have hσ : ([] : Store).all noLocs = true := rfl
  rw [callP_plain (f := c41) rfl, runFD_args (env := [some (tkL ts), none, none]) rfl rfl]
  unfold c41
  obtain ⟨e, rfl⟩ : ∃ e, d = e + 1 := ⟨d - 1, by omega⟩
  have hk := k_expr (N := N) (d' := e) (pB_Rok hl hN n) (by omega) hσ (List.suffix_refl ts) hn
  have hp0 : pos ts ts = 0 := by simp [pos]
  rw [hp0] at hk
  have hk : callP N (e + 1) 28 [tkL ts, .int 0] [] = _ := hk
  cases hq : pB n 1 ts with
  | stuck => exact absurd hq hn
  | exc =>
    rw [hq] at hk
    rw [exs_exc (by simp only [eg, hk, cv])]; rfl
  | ok q =>
    obtain ⟨t, r⟩ := q
    rw [hq] at hk
    have hr := pB_suf _ _ _ _ _ hq
    rw [exs_next (env' := [some (tkL ts), some t.pv, some (.int (pos ts r))]) (σ' := []) (by simp only [eg, hk, cv])]
    cases r with
    | nil =>
      rw [exs_next (env' := [some (tkL ts), some t.pv, some (.int (pos ts []))]) (σ' := []) (by simp only [eg, len_tk hl', pos_nil, Nat.lt_irrefl])]
      rw [exs_ret (v := t.pv) (env' := [some (tkL ts), some t.pv, some (.int (pos ts []))]) (σ' := []) (by simp only [eg])]
      exact leave_nl (σ := []) (v := t.pv) (Tr.pv_nl _) hσ
    | cons p r =>
      rw [exs_exc (by simp only [eg, len_tk hl', pos_lt hr])]; rfl
end
end Mine
namespace Mine
/-! the plain parser does not run out of fuel -/
def wT : Tok → Nat
  | .op s => if s = tLP then 6 else if 1 ≤ prioS s ∨ s = tNOT then 2 else 0
  | _ => 0
def wt : Toks → Nat
  | [] => 0
  | p :: r => wT p.1 + wt r
theorem wt_app (a b : Toks) : wt (a ++ b) = wt a + wt b := by
  induction a with
  | nil => simp [wt]
  | cons p r ih => simp only [List.cons_append, wt, ih]; omega
theorem wt_suf {l r : Toks} (h : l <:+ r) : wt l ≤ wt r := by
  obtain ⟨p, rfl⟩ := h
  rw [wt_app]; omega
theorem wt_lp {l : Toks} (h : isOp tLP l = true) : wt l.tail + 6 = wt l := by
  obtain ⟨n, r, rfl⟩ := isOp_cons h
  show wt r + 6 = 6 + wt r
  omega
theorem wt_op {l : Toks} {s : List Nat} (h : isOp s l = true) (hs : s = tNOT ∨ s = tPL ∨ s = tMI) : wt l.tail + 2 = wt l := by
  obtain ⟨n, r, rfl⟩ := isOp_cons h
  rcases hs with rfl | rfl | rfl
  · show wt r + 2 = 2 + wt r; omega
  · show wt r + 2 = 2 + wt r; omega
  · show wt r + 2 = 2 + wt r; omega
theorem wt_pr {l : Toks} (h : 1 ≤ prio l) : wt l.tail + 2 ≤ wt l := by
  obtain ⟨s, n, r, rfl⟩ := prio_cons h
  have hp : 1 ≤ prioS s := h
  show wt r + 2 ≤ wT (.op s) + wt r
  have : 2 ≤ wT (.op s) := by
    show 2 ≤ if s = tLP then 6 else if 1 ≤ prioS s ∨ s = tNOT then 2 else 0
    by_cases hs : s = tLP
    · rw [if_pos hs]; decide
    · rw [if_neg hs, if_pos (Or.inl hp)]
      exact Nat.le_refl 2
  omega
theorem bind_ne {α β : Type} {o : Out α} {f : α → Out β} (h : o ≠ .stuck) (hf : ∀ a, o = .ok a → f a ≠ .stuck) : o.bind f ≠ .stuck := by
  cases o with
  | ok a => exact hf a rfl
  | exc => nofun
  | stuck => exact absurd rfl h
def NS (rec : Nat → Toks → Out (Tr × Toks)) (w : Nat) : Prop := ∀ least l, 1 ≤ least → wt l + 6 ≤ w → rec least l ≠ .stuck
theorem needOp_ok {s : List Nat} {l r : Toks} (h : needOp s l = .ok r) : isOp s l = true ∧ r = l.tail := by
  unfold needOp at h
  split at h
  · rename_i q; cases h; exact ⟨q, rfl⟩
  · cases h
section
variable {rec recU : Nat → Toks → Out (Tr × Toks)} {w : Nat} {l : Toks}
theorem pPart_ne (ns : NS rec w) (hw : wt l + 6 ≤ w) {s : List Nat} : pPart rec s l ≠ .stuck := by
  unfold pPart
  split
  · nofun
  · exact bind_ne (ns _ _ (Nat.le_refl _) hw) fun a _ => nofun
theorem pCut_ne (hs : ∀ n, Suf (rec n)) (ns : NS rec w) (hw : wt l ≤ w) {b : Tr} : pCut rec b l ≠ .stuck := by
  unfold pCut
  refine bind_ne needOp_ns fun l1 h1 => ?_
  obtain ⟨h1', rfl⟩ := needOp_ok h1
  have e1 := wt_lp h1'
  refine bind_ne (pPart_ne ns (by omega)) fun q2 h2 => bind_ne needOp_ns fun l3 h3 => ?_
  have e2 := wt_suf (pPart_suf hs h2)
  have e3 := wt_suf (needOp_suf h3)
  exact bind_ne (pPart_ne ns (by omega)) fun q4 h4 => bind_ne needOp_ns fun l5 h5 => nofun
theorem argLoop_ne (hs : ∀ n, Suf (rec n)) (ns : NS rec w) : ∀ (k : Nat) (l : Toks), l.length < k → wt l + 6 ≤ w → argLoop rec k l ≠ .stuck
  | 0, _, h, _ => absurd h (Nat.not_lt_zero _)
  | k + 1, l, h, hw => by
    unfold argLoop
    refine bind_ne (ns _ _ (Nat.le_refl _) hw) fun q hq => ?_
    have e := wt_suf (hs _ _ _ _ hq)
    have e2 := (hs _ _ _ _ hq).length_le
    split
    · rename_i hB
      have e3 := wt_suf (suf_tl (l := q.2))
      have e4 : q.2.tail.length < k := by
        obtain ⟨n, r, hr⟩ := isOp_cons hB
        rw [hr] at e2 ⊢
        simp only [List.length_cons, List.tail_cons] at e2 ⊢
        omega
      exact bind_ne (argLoop_ne hs ns k _ e4 (by omega)) fun rs _ => nofun
    · exact bind_ne needOp_ns fun r _ => nofun
theorem pArgs_ne (hs : ∀ n, Suf (rec n)) (ns : NS rec w) (hw : wt l ≤ w) : pArgs rec l ≠ .stuck := by
  unfold pArgs
  refine bind_ne needOp_ns fun l1 h1 => ?_
  obtain ⟨h1', rfl⟩ := needOp_ok h1
  have e1 := wt_lp h1'
  split
  · nofun
  · exact argLoop_ne hs ns _ _ (Nat.lt_succ_self _) (by omega)
theorem isCut_ne : isCut l ≠ .stuck := by
  unfold isCut
  split <;> nofun
theorem pNamed_ne (hs : ∀ n, Suf (rec n)) (ns : NS rec w) (hw : wt l ≤ w) {s : List Nat} : pNamed rec s l ≠ .stuck := by
  rw [pNamed_eq]
  split
  · nofun
  · refine bind_ne isCut_ne fun c _ => bind_ne ?_ fun b hb => ?_
    · cases c with
      | true => nofun
      | false => exact bind_ne (pArgs_ne hs ns hw) fun q _ => nofun
    · have : b.2 <:+ l := by
        cases c with
        | true => cases hb; exact List.suffix_refl _
        | false =>
          obtain ⟨q, hq, hb⟩ := bind_ok hb
          cases hb
          exact pArgs_suf hs hq
      have := wt_suf this
      split
      · exact pCut_ne hs ns (by omega)
      · nofun
theorem cplx_one {c : Toks} (h : partEnd l = some c) : ∃ a, cplxPart l = .ok (a, c) := by
  rw [partEnd_eq] at h
  rw [cplxPart_eq]
  unfold skipSign at h
  have key : ∀ (sg : Int) (l : Toks), partTok l = some c → ∃ a, numOf sg l = .ok (a, c) := by
    intro sg l h
    match l, h with
    | (.int _, _) :: r, h => cases h; exact ⟨_, rfl⟩
    | (.real _ _, _) :: r, h => cases h; exact ⟨_, rfl⟩
  have key2 : ∀ l : Toks, partTok l = some c → opTail l = l := by
    intro l h
    match l, h with
    | (.int _, _) :: r, h => rfl
    | (.real _ _, _) :: r, h => rfl
  cases hB : isOp tPL l || isOp tMI l with
  | true =>
    rw [hB] at h
    have hc : opTail l = l.tail := by
      rcases Bool.or_eq_true_iff.mp hB with q | q
      · obtain ⟨n, r, rfl⟩ := isOp_cons q; rfl
      · obtain ⟨n, r, rfl⟩ := isOp_cons q; rfl
    rw [hc]
    exact key _ _ h
  | false =>
    rw [hB] at h
    rw [key2 _ h]
    exact key _ _ h
theorem isCplx_ok (h : isCplx l = true) : ∃ a b c d e, cplxPart l.tail = .ok (a, c) ∧ isOp tCM c = true ∧ cplxPart c.tail = .ok (b, d) ∧ isOp tRP d = true ∧ e = d.tail := by
  unfold isCplx at h
  split at h
  · cases h
  · rename_i c hc
    obtain ⟨a, ha⟩ := cplx_one hc
    split at h
    · cases h
    · rename_i hcm
      split at h
      · cases h
      · rename_i d hd
        obtain ⟨b, hb⟩ := cplx_one hd
        exact ⟨a, b, c, d, _, ha, hcm, hb, h, rfl⟩
theorem pBracket_ne (ns : NS rec w) (h : isOp tLP l = true) (hw : wt l ≤ w) : pBracket rec l ≠ .stuck := by
  have e1 := wt_lp h
  unfold pBracket
  split
  · rename_i hc
    obtain ⟨a, b, c, d, e, h1, h2, h3, h4, _⟩ := isCplx_ok hc
    rw [h1, ok_bind, h3, ok_bind]
    exact bind_ne needOp_ns fun _ _ => nofun
  · exact bind_ne (ns _ _ (Nat.le_refl _) (by omega)) fun a _ => bind_ne needOp_ns fun r _ => nofun
theorem pPrim_ne (hs : ∀ n, Suf (rec n)) (ns : NS rec w) (hw : wt l ≤ w) : pPrim rec l ≠ .stuck := by
  match l, hw with
  | [], hw => nofun
  | (.nam s, n) :: r, hw => exact pNamed_ne hs ns (by have := wt_suf (List.suffix_cons (Tok.nam s, n) r); omega)
  | (.op s, n) :: r, hw =>
    unfold pPrim
    dsimp only
    split
    · rename_i hs'
      exact pBracket_ne ns (by simp [isOp, hs']) hw
    · nofun
  | (.int _, n) :: r, hw | (.real _ _, n) :: r, hw | (.dble _ _, n) :: r, hw | (.log _, n) :: r, hw | (.chr _, n) :: r, hw => nofun
theorem pFirst_ne (hs : ∀ n, Suf (rec n)) (ns : NS rec w) (nu : NS recU (w + 4)) (hw : wt l ≤ w) {least : Nat} : pFirst rec recU least l ≠ .stuck := by
  unfold pFirst
  split
  · rename_i h
    have e := wt_op h (.inl rfl)
    split
    · nofun
    · exact bind_ne (nu _ _ (by decide) (by omega)) fun q _ => nofun
  · split
    · rename_i h
      have e : wt l.tail + 2 = wt l := by
        rcases Bool.or_eq_true_iff.mp h with q | q
        · exact wt_op q (.inr (.inl rfl))
        · exact wt_op q (.inr (.inr rfl))
      split
      · nofun
      · exact bind_ne (nu _ _ (by decide) (by omega)) fun q _ => nofun
    · exact pPrim_ne hs ns hw
theorem pLoop_ne (hs : ∀ n, Suf (rec n)) (ns : NS rec w) {least : Nat} (h0 : 1 ≤ least) : ∀ (k : Nat) (t : Tr) (was : Bool) (l : Toks), l.length < k → wt l + 6 ≤ w + 1 → pLoop rec least k t was l ≠ .stuck
  | 0, _, _, _, h, _ => absurd h (Nat.not_lt_zero _)
  | k + 1, t, was, l, h, hw => by
    unfold pLoop
    split
    · rename_i hp
      have e1 := wt_pr (Nat.le_trans h0 hp)
      obtain ⟨s, n, r, rfl⟩ := prio_cons (Nat.le_trans h0 hp)
      split
      · nofun
      · refine bind_ne (ns _ _ (by split <;> omega) (by omega)) fun q hq => ?_
        have e2 := wt_suf (hs _ _ _ _ hq)
        have e3 := (hs _ _ _ _ hq).length_le
        rw [List.tail_cons] at e1 e2 e3
        rw [List.length_cons] at h
        exact pLoop_ne hs ns h0 k _ _ _ (by omega) (by omega)
    · nofun
end
theorem pB_ne : ∀ (n : Nat) (least : Nat) (l : Toks), 1 ≤ least → wt l + 6 ≤ n → pB n least l ≠ .stuck
  | n + 6, least, l, h0, hw => by
    rw [pB_eq]
    have n0 : NS (pB n) n := fun least l h hw => pB_ne n least l h hw
    have n4 : NS (pB (n + 4)) (n + 4) := fun least l h hw => pB_ne (n + 4) least l h hw
    have n5 : NS (pB (n + 5)) (n + 5) := fun least l h hw => pB_ne (n + 5) least l h hw
    refine bind_ne (pFirst_ne (pB_suf n) n0 n4 (by omega)) fun q hq => ?_
    have e := pFirst_suf (pB_suf n) (pB_suf (n + 4)) hq
    have e1 := wt_suf e
    have e2 := e.length_le
    exact pLoop_ne (pB_suf (n + 5)) n5 h0 _ _ _ _ (by omega) (by omega)
  | 0, _, _, _, h | 1, _, _, _, h | 2, _, _, _, h | 3, _, _, _, h | 4, _, _, _, h | 5, _, _, _, h => by omega
end Mine
namespace Mine
/-! no fewer brackets -/
def opens : Toks → Nat
  | [] => 0
  | (.op s, _) :: r => (if s = tLP then 1 else 0) + opens r
  | _ :: r => opens r
def op1 : Tok → Nat
  | .op s => if s = tLP then 1 else 0
  | _ => 0
theorem opens_cons (p : Tok × Nat) (r : Toks) : opens (p :: r) = op1 p.1 + opens r := by
  obtain ⟨t, n⟩ := p
  cases t <;> simp [opens, op1]
theorem opens_app (a b : Toks) : opens (a ++ b) = opens a + opens b := by
  induction a with
  | nil => simp [opens]
  | cons p r ih => rw [List.cons_append, opens_cons, opens_cons, ih]; omega
theorem opens_suf {l r : Toks} (h : l <:+ r) : opens l ≤ opens r := by
  obtain ⟨p, rfl⟩ := h
  rw [opens_app]; omega
theorem opens_lp {l : Toks} (h : isOp tLP l = true) : opens l.tail + 1 = opens l := by
  obtain ⟨n, r, rfl⟩ := isOp_cons h
  show opens r + 1 = 1 + opens r
  omega
def leftB (lv : Nat) : Nat := if lv = 9 then 10 else if lv = 5 then 6 else lv
def rightB (lv : Nat) : Nat := if lv = 9 then 9 else lv + 1
def unB (op : List Nat) : Nat := if op = tNOT then 5 else 8
def bindT : Tr → Nat
  | .bin op _ _ => prioS op
  | .un op _ => if op = tNOT then 4 else 7
  | _ => 10
def br (t : Tr) (k : Nat) : Nat := if bindT t < k then 1 else 0
mutual
def cost : Tr → Nat
  | .bin op l r => cost l + br l (leftB (prioS op)) + (cost r + br r (rightB (prioS op)))
  | .un op a => cost a + br a (unB op)
  | .ref _ as => 1 + costs as
  | .sub b lo hi => cost b + 1 + costO lo + costO hi
  | .cplx _ _ => 1
  | _ => 0
def costO : TrO → Nat
  | .none => 0
  | .some t => cost t
def costs : Trs → Nat
  | .nil => 0
  | .cons t r => cost t + costs r
end
theorem prioS_le (s : List Nat) : prioS s ≤ 9 := by
  have : ∀ (l : List (List Nat × Nat)), (∀ p ∈ l, p.2 ≤ 9) → (l.lookup s).getD 0 ≤ 9 := by
    intro l
    induction l with
    | nil => intro _; exact Nat.zero_le _
    | cons p r ih =>
      intro h
      rw [List.lookup_cons]
      split
      · exact h _ (.head _)
      · exact ih fun q hq => h q (.tail _ hq)
  exact this prioT (by decide)
theorem prio_le (l : Toks) : prio l ≤ 9 := by
  match l with
  | (.op s, n) :: r => exact prioS_le s
  | [] => exact Nat.zero_le _
  | (.int _, n) :: r | (.real _ _, n) :: r | (.dble _ _, n) :: r | (.log _, n) :: r | (.chr _, n) :: r | (.nam _, n) :: r => exact Nat.zero_le _
theorem prio_opens {l : Toks} (h : 1 ≤ prio l) : opens l.tail ≤ opens l := opens_suf suf_tl
/-- what a parse shows -/
def Min (rec : Nat → Toks → Out (Tr × Toks)) : Prop := ∀ least l t r, 1 ≤ least → least ≤ 10 → rec least l = .ok (t, r) →
  cost t + opens r ≤ opens l ∧ (cost t + 1 + opens r ≤ opens l ∨ least ≤ bindT t) ∧ prio r < least
section
variable {rec recU : Nat → Toks → Out (Tr × Toks)} {l : Toks}
theorem Min.one (m : Min rec) {t : Tr} {r : Toks} {k : Nat} (hk : 1 ≤ k) (hk2 : k ≤ 10) (h : rec k l = .ok (t, r)) : cost t + br t k + opens r ≤ opens l := by
  obtain ⟨h1, h2, _⟩ := m _ _ _ _ hk hk2 h
  unfold br
  split
  · omega
  · omega
theorem pPart_min (m : Min rec) {s : List Nat} {t : TrO} {r : Toks} (h : pPart rec s l = .ok (t, r)) : costO t + opens r ≤ opens l := by
  unfold pPart at h
  split at h
  · cases h; simp [costO]
  · obtain ⟨q, h1, h⟩ := bind_ok h
    cases h
    exact (m _ _ _ _ (Nat.le_refl _) (by decide) h1).1
theorem pCut_min (m : Min rec) {b t : Tr} {r : Toks} (h : pCut rec b l = .ok (t, r)) : cost t + opens r ≤ cost b + opens l ∧ bindT t = 10 := by
  unfold pCut at h
  obtain ⟨l1, h1, h⟩ := bind_ok h
  obtain ⟨q2, h2, h⟩ := bind_ok h
  obtain ⟨l3, h3, h⟩ := bind_ok h
  obtain ⟨q4, h4, h⟩ := bind_ok h
  obtain ⟨l5, h5, h⟩ := bind_ok h
  cases h
  obtain ⟨k1, rfl⟩ := needOp_ok h1
  have e1 := opens_lp k1
  have e2 := pPart_min m h2
  have e3 := opens_suf (needOp_suf h3)
  have e4 := pPart_min m h4
  have e5 := opens_suf (needOp_suf h5)
  refine ⟨?_, rfl⟩
  simp only [cost]
  omega
theorem argLoop_min (m : Min rec) : ∀ (k : Nat) (l : Toks) (t : Trs) (r : Toks), argLoop rec k l = .ok (t, r) → costs t + opens r ≤ opens l
  | 0, _, _, _, h => by cases h
  | k + 1, l, t, r, h => by
    unfold argLoop at h
    obtain ⟨q, h1, h⟩ := bind_ok h
    have e1 := (m _ _ _ _ (Nat.le_refl _) (by decide) h1).1
    split at h
    · obtain ⟨rs, h2, h⟩ := bind_ok h
      cases h
      have e2 := argLoop_min m k _ _ _ h2
      have e3 := opens_suf (suf_tl (l := q.2))
      simp only [costs]
      omega
    · obtain ⟨r', h2, h⟩ := bind_ok h
      cases h
      have e3 := opens_suf (needOp_suf h2)
      simp only [costs]
      omega
theorem pArgs_min (m : Min rec) {t : Trs} {r : Toks} (h : pArgs rec l = .ok (t, r)) : 1 + costs t + opens r ≤ opens l := by
  unfold pArgs at h
  obtain ⟨l1, h1, h⟩ := bind_ok h
  obtain ⟨k1, rfl⟩ := needOp_ok h1
  have e1 := opens_lp k1
  split at h
  · cases h
    have e3 := opens_suf (suf_tl (l := l.tail))
    simp only [costs]
    omega
  · have := argLoop_min m _ _ _ _ h
    omega
theorem pNamed_min (m : Min rec) {s : List Nat} {t : Tr} {r : Toks} (h : pNamed rec s l = .ok (t, r)) : cost t + opens r ≤ opens l ∧ bindT t = 10 := by
  rw [pNamed_eq] at h
  split at h
  · cases h; exact ⟨by simp [cost], rfl⟩
  · obtain ⟨c, _, h⟩ := bind_ok h
    obtain ⟨b, hb, h⟩ := bind_ok h
    have hbs : cost b.1 + opens b.2 ≤ opens l ∧ bindT b.1 = 10 := by
      cases c with
      | true => cases hb; exact ⟨by simp [cost], rfl⟩
      | false =>
        obtain ⟨q, hq, hb⟩ := bind_ok hb
        cases hb
        have := pArgs_min m hq
        exact ⟨by simp only [cost]; omega, rfl⟩
    split at h
    · have := pCut_min m h
      exact ⟨by omega, this.2⟩
    · cases h; exact hbs
theorem numOf_min {sg : Int} {a : Num} {r : Toks} (h : numOf sg l = .ok (a, r)) : opens r ≤ opens l := opens_suf (numOf_suf h)
theorem pBracket_min (m : Min rec) (hb : isOp tLP l = true) {t : Tr} {r : Toks} (h : pBracket rec l = .ok (t, r)) : cost t + opens r ≤ opens l ∧ (cost t + 1 + opens r ≤ opens l ∨ bindT t = 10) := by
  have e0 := opens_lp hb
  unfold pBracket at h
  split at h
  · obtain ⟨a, h1, h⟩ := bind_ok h
    obtain ⟨b, h2, h⟩ := bind_ok h
    obtain ⟨r', h3, h⟩ := bind_ok h
    cases h
    have e1 := opens_suf (cplxPart_suf h1)
    have e2 := opens_suf (suf_tl (l := a.2))
    have e3 := opens_suf (cplxPart_suf h2)
    have e4 := opens_suf (needOp_suf h3)
    exact ⟨by simp only [cost]; omega, .inr rfl⟩
  · obtain ⟨a, h1, h⟩ := bind_ok h
    obtain ⟨r', h3, h⟩ := bind_ok h
    cases h
    have e1 := (m _ _ _ _ (Nat.le_refl _) (by decide) h1).1
    have e4 := opens_suf (needOp_suf h3)
    exact ⟨by omega, .inl (by omega)⟩
theorem pPrim_min (m : Min rec) {t : Tr} {r : Toks} (h : pPrim rec l = .ok (t, r)) : cost t + opens r ≤ opens l ∧ (cost t + 1 + opens r ≤ opens l ∨ bindT t = 10) := by
  match l, h with
  | (.nam s, n) :: r', h =>
    have := pNamed_min m (l := r') h
    exact ⟨this.1, .inr this.2⟩
  | (.op s, n) :: r', h =>
    unfold pPrim at h
    dsimp only at h
    split at h
    · rename_i hs
      exact pBracket_min m (by simp [isOp, hs]) h
    · cases h
  | (.int _, n) :: r', h | (.real _ _, n) :: r', h | (.dble _ _, n) :: r', h | (.log _, n) :: r', h | (.chr _, n) :: r', h =>
    cases h
    exact ⟨by simp [cost, opens], .inr rfl⟩
/-- the tree so far, with what may stand behind it -/
def Edge (least : Nat) (t : Tr) (w : Bool) (r l : Toks) : Prop :=
  cost t + opens r ≤ opens l ∧ (cost t + 1 + opens r ≤ opens l ∨ (least ≤ bindT t ∧ (1 ≤ prio r → ¬(prio r = 5 ∧ w = true) → leftB (prio r) ≤ bindT t)))
theorem pFirst_min (m : Min rec) (mu : Min recU) {least : Nat} (h0 : least ≤ 10) {t : Tr} {r : Toks} (h : pFirst rec recU least l = .ok (t, r)) : Edge least t false r l := by
  unfold pFirst at h
  split at h
  · rename_i hN
    split at h
    · cases h
    · rename_i hL
      obtain ⟨q, h1, h⟩ := bind_ok h
      cases h
      have e1 := mu.one (by decide) (by decide) h1
      have e2 := opens_suf (suf_tl (l := l))
      have e3 := (mu _ _ _ _ (by decide) (by decide) h1).2.2
      refine ⟨by simp only [cost]; rw [show unB tNOT = 5 from rfl]; omega, .inr ⟨?_, fun h5 h6 => ?_⟩⟩
      · show least ≤ 4; omega
      · show leftB (prio q.2) ≤ 4
        unfold leftB
        split
        · omega
        · split <;> omega
  · split at h
    · rename_i hN hS
      split at h
      · cases h
      · rename_i hL
        obtain ⟨q, h1, h⟩ := bind_ok h
        have ho : opTx l ≠ tNOT := by
          rcases Bool.or_eq_true_iff.mp hS with k | k
          · obtain ⟨n, r', rfl⟩ := isOp_cons k; show (_ : List Nat) ≠ _; simp only [opTx]; decide
          · obtain ⟨n, r', rfl⟩ := isOp_cons k; show (_ : List Nat) ≠ _; simp only [opTx]; decide
        cases h
        have e1 := mu.one (by decide) (by decide) h1
        have e2 := opens_suf (suf_tl (l := l))
        have e3 := (mu _ _ _ _ (by decide) (by decide) h1).2.2
        refine ⟨by simp only [cost]; rw [show unB (opTx l) = 8 from if_neg ho]; omega, .inr ⟨?_, fun h5 h6 => ?_⟩⟩
        · show least ≤ if opTx l = tNOT then 4 else 7
          rw [if_neg ho]; omega
        · show leftB (prio q.2) ≤ if opTx l = tNOT then 4 else 7
          rw [if_neg ho]
          unfold leftB
          split
          · omega
          · split <;> omega
    · obtain ⟨e1, e2⟩ := pPrim_min m h
      refine ⟨e1, e2.imp id fun e => ⟨by omega, fun _ _ => ?_⟩⟩
      have := prio_le r
      rw [e]
      unfold leftB
      split
      · omega
      · split <;> omega
theorem pLoop_min (m : Min rec) {least : Nat} (h0 : 1 ≤ least) {l0 : Toks} : ∀ (k : Nat) (t : Tr) (w : Bool) (l : Toks) (t' : Tr) (r : Toks), Edge least t w l l0 → pLoop rec least k t w l = .ok (t', r) →
    cost t' + opens r ≤ opens l0 ∧ (cost t' + 1 + opens r ≤ opens l0 ∨ least ≤ bindT t') ∧ prio r < least
  | 0, _, _, _, _, _, _, h => by cases h
  | k + 1, t, w, l, t', r, E, h => by
    unfold pLoop at h
    split at h
    · rename_i hp
      split at h
      · cases h
      · rename_i hw
        obtain ⟨q, h1, h⟩ := bind_ok h
        refine pLoop_min m h0 k _ _ _ _ _ ?_ h
        have hp1 : 1 ≤ prio l := Nat.le_trans h0 hp
        obtain ⟨s, n, r', rfl⟩ := prio_cons hp1
        have hpr : prio ((.op s, n) :: r') = prioS s := rfl
        rw [hpr] at hp hp1 hw h1
        have e9 := prioS_le s
        have e1 : cost q.1 + br q.1 (rightB (prioS s)) + opens q.2 ≤ opens r' := m.one (by unfold rightB; split <;> omega) (by unfold rightB; split <;> omega) h1
        have e2 := (m _ _ _ _ (by split <;> omega) (by split <;> omega) h1).2.2
        have e3 : opens ((.op s, n) :: r') = opens r' := by
          rw [opens_cons]
          have : s ≠ tLP := by
            rintro rfl
            exact absurd hp1 (by decide)
          simp [op1, this]
        obtain ⟨E1, E2⟩ := E
        rw [e3] at E1 E2
        rw [hpr] at E2
        have e4 : cost t + br t (leftB (prioS s)) + opens r' ≤ opens l0 := by
          unfold br
          split
          · rename_i hlt
            rcases E2 with E2 | ⟨_, E2⟩
            · omega
            · have := E2 hp1 hw; omega
          · omega
        have hb : bindT (.bin s t q.1) = prioS s := rfl
        refine ⟨?_, .inr ⟨by rw [show opTx ((Tok.op s, n) :: r') = s from rfl, hb]; exact hp, fun h5 h6 => ?_⟩⟩
        · show cost (.bin s t q.1) + _ ≤ _
          simp only [cost]
          omega
        · rw [show opTx ((Tok.op s, n) :: r') = s from rfl, hb]
          rw [hpr] at h6
          have h7 : ¬(prio q.2 = 5 ∧ prioS s = 5) := fun hh => h6 ⟨hh.1, by simp [hh.2]⟩
          unfold leftB
          split at e2 <;> split <;> (try split) <;> omega
    · rename_i hp
      cases h
      exact ⟨E.1, E.2.imp id fun e => e.1, by omega⟩
end
theorem pB_min : ∀ n, Min (pB n)
  | n + 6 => by
    intro least l t r h0 h10 h
    rw [pB_eq] at h
    obtain ⟨q, h1, h⟩ := bind_ok h
    exact pLoop_min (pB_min (n + 5)) h0 _ _ _ _ _ _ (pFirst_min (pB_min n) (pB_min (n + 4)) h10 h1) h
  | 0 | 1 | 2 | 3 | 4 | 5 => by intro least l t r h0 h10 h; cases h
end Mine
namespace Mine
/-! the printed pieces -/
inductive Lx where
  | t (t : Tok)
  | lpA
abbrev Lx.o (s : List Nat) : Lx := .t (.op s)
def Lx.tok : Lx → Tok
  | .t x => x
  | .lpA => .op tLP
def zerosL (n : Nat) : List Nat := List.replicate n 48
def showPair (m : Nat) (e : Int) (c : Nat) : List Nat :=
  if c = 68 ∨ 0 < e ∨ e < -12 then intText m ++ [46] ++ [c] ++ intText e
  else if e = 0 then intText m ++ [46]
  else if (intText m).length ≤ (-e).toNat then [46] ++ zerosL ((-e).toNat - (intText m).length) ++ intText m
  else (intText m).take ((intText m).length - (-e).toNat) ++ [46] ++ (intText m).drop ((intText m).length - (-e).toNat)
def Tok.tx : Tok → List Nat
  | .op s => s
  | .int v => intText v
  | .real m e => showPair m e 69
  | .dble m e => showPair m e 68
  | .log b => if b then [46, 84, 82, 85, 69, 46] else [46, 70, 65, 76, 83, 69, 46]
  | .chr s => 39 :: (dbl39 s ++ [39])
  | .nam s => s
def Lx.tx (x : Lx) : List Nat := x.tok.tx
def txs : List Lx → List Nat
  | [] => []
  | x :: r => x.tx ++ txs r
theorem txs_app (a b : List Lx) : txs (a ++ b) = txs a ++ txs b := by
  induction a with
  | nil => rfl
  | cons x r ih => simp [txs, ih]
def posd : Nat → List Lx → Toks
  | _, [] => []
  | n, x :: r => (x.tok, n) :: posd (n + x.tx.length) r
theorem posd_app (a b : List Lx) : ∀ n, posd n (a ++ b) = posd n a ++ posd (n + (txs a).length) b := by
  induction a with
  | nil => intro n; simp [posd, txs]
  | cons x r ih => intro n; simp [posd, txs, ih, Nat.add_assoc]
theorem posd_len (a : List Lx) : ∀ n, (posd n a).length = a.length := by
  induction a with
  | nil => intro n; rfl
  | cons x r ih => intro n; simp [posd, ih]
def wrap (b : Bool) (l : List Lx) : List Lx := match b with
  | true => .o tLP :: (l ++ [.o tRP])
  | false => l
def Num.lx : Num → List Lx
  | .int i => (if i < 0 then [.o tMI] else []) ++ [.t (.int i.natAbs)]
  | .real m e => (if m < 0 then [.o tMI] else []) ++ [.t (.real m.natAbs e)]
mutual
def lx : Tr → List Lx
  | .bin op l r => wrap (decide (bindT l < leftB (prioS op))) (lx l) ++ .o op :: wrap (decide (bindT r < rightB (prioS op))) (lx r)
  | .un op a => .o op :: wrap (decide (bindT a < unB op)) (lx a)
  | .nam s => [.t (.nam s)]
  | .ref s as => .t (.nam s) :: .lpA :: (row as ++ [.o tRP])
  | .sub b lo hi => lx b ++ .lpA :: (lxO lo ++ .o tCL :: (lxO hi ++ [.o tRP]))
  | .int i => [.t (.int i.toNat)]
  | .real m e => [.t (.real m.toNat e)]
  | .dble m e => [.t (.dble m.toNat e)]
  | .log b => [.t (.log b)]
  | .chr s => [.t (.chr s)]
  | .cplx a b => .o tLP :: (a.lx ++ .o tCM :: (b.lx ++ [.o tRP]))
def lxO : TrO → List Lx
  | .none => []
  | .some t => lx t
def row : Trs → List Lx
  | .nil => []
  | .cons t r => lx t ++ rowT r
def rowT : Trs → List Lx
  | .nil => []
  | .cons t r => .o tCM :: (lx t ++ rowT r)
end
def nameL : List (List Nat) := [[65], [88, 49], [90, 69, 66, 82, 65, 57], [69, 53], [68, 50], [69, 81]]
def textL : List (List Nat) := [[], [65], [73, 84, 39, 83], [39, 39], [32, 88, 32], [40], [46, 69, 81, 46], [61, 44]]
def opsL : List (List Nat) := [[43], [45], [42], [47], [42, 42], [47, 47], [46, 69, 81, 46], [46, 76, 84, 46], [46, 65, 78, 68, 46], [46, 79, 82, 46], [46, 69, 81, 86, 46], [46, 78, 69, 81, 86, 46], [46, 71, 69, 46]]
def PairOk (m : Nat) (e : Int) : Prop := m < 5000 ∧ -20 ≤ e ∧ e ≤ 24 ∧ (m = 0 → e = 0) ∧ (m ≠ 0 → m % 10 ≠ 0)
def NumOk : Num → Prop
  | .int i => i.natAbs < 30
  | .real m e => PairOk m.natAbs e
def IsBase : Tr → Prop
  | .nam _ => True
  | .ref _ _ => True
  | _ => False
mutual
def Ok : Tr → Prop
  | .bin op l r => op ∈ opsL ∧ Ok l ∧ Ok r
  | .un op a => (op = tNOT ∨ op = tPL ∨ op = tMI) ∧ Ok a
  | .nam s => s ∈ nameL
  | .ref s as => s ∈ nameL ∧ Oks as
  | .sub b lo hi => IsBase b ∧ Ok b ∧ OkO lo ∧ OkO hi
  | .int i => 0 ≤ i ∧ i < 1000000000000
  | .real m e => 0 ≤ m ∧ PairOk m.toNat e
  | .dble m e => 0 ≤ m ∧ PairOk m.toNat e
  | .log _ => True
  | .chr s => s ∈ textL
  | .cplx a b => NumOk a ∧ NumOk b
def OkO : TrO → Prop
  | .none => True
  | .some t => Ok t
def Oks : Trs → Prop
  | .nil => True
  | .cons t r => Ok t ∧ Oks r
end
theorem ops_prio {op : List Nat} (h : op ∈ opsL) : 1 ≤ prioS op := by
  revert op; decide
/-! the count of the brackets -/
def opl : List Lx → Nat
  | [] => 0
  | x :: r => op1 x.tok + opl r
theorem opl_app (a b : List Lx) : opl (a ++ b) = opl a + opl b := by
  induction a with
  | nil => simp [opl]
  | cons x r ih => simp only [List.cons_append, opl, ih]; omega
theorem opens_posd (a : List Lx) : ∀ n, opens (posd n a) = opl a := by
  induction a with
  | nil => intro n; rfl
  | cons x r ih => intro n; rw [posd, opens_cons, ih]; rfl
theorem opl_wrap (b : Bool) (l : List Lx) : opl (wrap b l) = opl l + (if b then 1 else 0) := by
  cases b with
  | false => rfl
  | true =>
    show opl (.o tLP :: (l ++ [.o tRP])) = _
    rw [opl, opl_app]
    show 1 + (opl l + 0) = _
    simp only [if_true]; omega
theorem opl_num (a : Num) : opl a.lx = 0 := by
  cases a <;> simp only [Num.lx] <;> split <;> rfl
theorem op1_op {op : List Nat} (h : 1 ≤ prioS op) : op1 (.op op) = 0 := by
  unfold op1
  have : op ≠ tLP := by rintro rfl; exact absurd h (by decide)
  simp only [this, if_false]
theorem op1_un {op : List Nat} (h : op = tNOT ∨ op = tPL ∨ op = tMI) : op1 (.op op) = 0 := by
  rcases h with rfl | rfl | rfl <;> rfl
mutual
theorem opl_lx : ∀ t : Tr, Ok t → opl (lx t) = cost t
  | .bin op l r, h => by
    unfold Ok at h
    have e1 := opl_lx l h.2.1
    have e2 := opl_lx r h.2.2
    have e3 := op1_op (ops_prio h.1)
    rw [lx, opl_app, opl, opl_wrap, opl_wrap, e1, e2, cost]
    show _ + (op1 (.op op) + _) = _
    rw [e3]
    simp only [br, decide_eq_true_eq]
    omega
  | .un op a, h => by
    unfold Ok at h
    have e1 := opl_lx a h.2
    have e3 := op1_un h.1
    rw [lx, opl, opl_wrap, e1, cost]
    show op1 (.op op) + _ = _
    rw [e3]
    simp only [br, decide_eq_true_eq]
    omega
  | .nam _, _ => rfl
  | .ref s as, h => by
    unfold Ok at h
    have e1 := opl_row as h.2
    rw [lx, opl, opl, opl_app, e1, cost]
    show 0 + (1 + (costs as + 0)) = _
    omega
  | .sub b lo hi, h => by
    unfold Ok at h
    have e1 := opl_lx b h.2.1
    have e2 := opl_lxO lo h.2.2.1
    have e3 := opl_lxO hi h.2.2.2
    rw [lx, opl_app, opl, opl_app, opl, opl_app, e1, e2, e3, cost]
    show _ + (1 + (_ + (0 + (_ + 0)))) = _
    omega
  | .int _, _ => rfl
  | .real _ _, _ => rfl
  | .dble _ _, _ => rfl
  | .log _, _ => rfl
  | .chr _, _ => rfl
  | .cplx a b, _ => by
    rw [lx, opl, opl_app, opl, opl_app, opl_num, opl_num]
    rfl
theorem opl_lxO : ∀ t : TrO, OkO t → opl (lxO t) = costO t
  | .none, _ => rfl
  | .some t, h => by
    unfold OkO at h
    rw [lxO, costO]; exact opl_lx t h
theorem opl_row : ∀ t : Trs, Oks t → opl (row t) = costs t
  | .nil, _ => rfl
  | .cons t r, h => by
    unfold Oks at h
    rw [row, opl_app, opl_lx t h.1, opl_rowT r h.2, costs]
theorem opl_rowT : ∀ t : Trs, Oks t → opl (rowT t) = costs t
  | .nil, _ => rfl
  | .cons t r, h => by
    unfold Oks at h
    rw [rowT, opl, opl_app, opl_lx t h.1, opl_rowT r h.2, costs]
    show 0 + _ = _
    omega
end
/-! balanced -/
def Bal (x : Toks) : Prop := (∀ rest dp, 1 ≤ dp → closeAt (x ++ rest) dp = (closeAt rest dp).map (· + x.length)) ∧ (∀ rest dp k, 0 ≤ dp → cutScan (x.length + k) (x ++ rest) dp = cutScan k rest dp)
def BalC (x : Toks) : Prop := (∀ rest dp, 1 ≤ dp → closeAt (x ++ rest) dp = (closeAt rest dp).map (· + x.length)) ∧ (∀ rest dp k, 1 ≤ dp → cutScan (x.length + k) (x ++ rest) dp = cutScan k rest dp)
theorem Bal.c {x : Toks} (h : Bal x) : BalC x := ⟨h.1, fun rest dp k hd => h.2 rest dp k (by omega)⟩
theorem map_add (o : Option Nat) (a b : Nat) : (o.map (· + a)).map (· + b) = o.map (· + (b + a)) := by
  cases o with
  | none => rfl
  | some n => simp only [Option.map_some]; congr 1; omega
theorem Bal.nil : Bal [] := ⟨fun rest dp h => by simp, fun rest dp k h => by simp⟩
theorem Bal.app {a b : Toks} (h : Bal a) (g : Bal b) : Bal (a ++ b) :=
  ⟨fun rest dp hd => by rw [List.append_assoc, h.1 _ _ hd, g.1 _ _ hd, map_add, List.length_append],
   fun rest dp k hd => by rw [List.append_assoc, List.length_append, Nat.add_assoc, h.2 _ _ _ hd, g.2 _ _ _ hd]⟩
theorem BalC.app {a b : Toks} (h : BalC a) (g : BalC b) : BalC (a ++ b) :=
  ⟨fun rest dp hd => by rw [List.append_assoc, h.1 _ _ hd, g.1 _ _ hd, map_add, List.length_append],
   fun rest dp k hd => by rw [List.append_assoc, List.length_append, Nat.add_assoc, h.2 _ _ _ hd, g.2 _ _ _ hd]⟩
theorem isOp_c {s t : List Nat} {n : Nat} {r : Toks} : isOp s ((.op t, n) :: r) = decide (t = s) := rfl
theorem cl_none {p : Tok × Nat} {r : Toks} {dp : Int} (h1 : isOp tLP (p :: r) = false) (h2 : isOp tRP (p :: r) = false) : closeAt (p :: r) dp = (closeAt r dp).map (· + 1) := by
  simp only [closeAt, h1, h2]
theorem sc_none {p : Tok × Nat} {r : Toks} {dp : Int} {k : Nat} (h1 : isOp tLP (p :: r) = false) (h2 : isOp tRP (p :: r) = false) (h3 : dp = 0 → isOp tCL (p :: r) = false) : cutScan (k + 1) (p :: r) dp = cutScan k r dp := by
  simp only [cutScan, h1, h2]
  rw [if_neg]
  rintro ⟨e, f⟩
  rw [h3 e] at f; cases f
theorem isOp_irr {s : List Nat} {p : Tok × Nat} {r r' : Toks} : isOp s (p :: r) = isOp s (p :: r') := by
  obtain ⟨t, n⟩ := p
  cases t <;> rfl
theorem Bal.one {p : Tok × Nat} (h1 : isOp tLP [p] = false) (h2 : isOp tRP [p] = false) (h3 : isOp tCL [p] = false) : Bal [p] :=
  ⟨fun rest dp hd => by rw [List.singleton_append, cl_none (by rw [isOp_irr (r' := [])]; exact h1) (by rw [isOp_irr (r' := [])]; exact h2)]; rfl,
   fun rest dp k hd => by
    rw [List.singleton_append, List.length_singleton, Nat.add_comm]
    exact sc_none (by rw [isOp_irr (r' := [])]; exact h1) (by rw [isOp_irr (r' := [])]; exact h2) fun _ => by rw [isOp_irr (r' := [])]; exact h3⟩
theorem BalC.colon {n : Nat} : BalC [(.op tCL, n)] :=
  ⟨fun rest dp hd => by rw [List.singleton_append, cl_none rfl rfl]; rfl,
   fun rest dp k hd => by
    rw [List.singleton_append, List.length_singleton, Nat.add_comm]
    exact sc_none rfl rfl fun e => by omega⟩
theorem cl_lp {n : Nat} {r : Toks} {dp : Int} : closeAt ((.op tLP, n) :: r) dp = (closeAt r (dp + 1)).map (· + 1) := rfl
theorem cl_rp {n : Nat} {r : Toks} {dp : Int} : closeAt ((.op tRP, n) :: r) dp = if dp - 1 = 0 then some 0 else (closeAt r (dp - 1)).map (· + 1) := rfl
theorem Bal.br {x : Toks} {n m : Nat} (h : BalC x) : Bal ((.op tLP, n) :: (x ++ [(.op tRP, m)])) :=
  ⟨fun rest dp hd => by
    rw [List.cons_append, List.append_assoc, cl_lp, h.1 _ _ (by omega), List.singleton_append, cl_rp, if_neg (by omega)]
    have : dp + 1 - 1 = dp := by omega
    rw [this, map_add, map_add]
    congr 1
    funext k
    simp only [List.length_cons, List.length_append, List.length_nil]; omega,
   fun rest dp k hd => by
    have e : ((Tok.op tLP, n) :: (x ++ [(Tok.op tRP, m)])).length + k = (x.length + (k + 1)) + 1 := by simp only [List.length_cons, List.length_append, List.length_nil]; omega
    rw [e, List.cons_append, List.append_assoc]
    show cutScan (x.length + (k + 1)) (x ++ ((Tok.op tRP, m) :: rest)) (dp + 1) = _
    rw [h.2 _ _ _ (by omega)]
    show cutScan k rest (dp + 1 - 1) = _
    congr 1; omega⟩
theorem bal_wrap {l : List Lx} (h : ∀ n, Bal (posd n l)) (b : Bool) (n : Nat) : Bal (posd n (wrap b l)) := by
  cases b with
  | false => exact h n
  | true =>
    show Bal (posd n (.o tLP :: (l ++ [.o tRP])))
    rw [posd, posd_app]
    exact Bal.br (h _).c
theorem bal_num (a : Num) (n : Nat) : Bal (posd n a.lx) := by
  cases a with
  | int i =>
    simp only [Num.lx]
    split
    · exact Bal.app (a := [_]) (b := [_]) (Bal.one rfl rfl rfl) (Bal.one rfl rfl rfl)
    · exact Bal.one rfl rfl rfl
  | real m e =>
    simp only [Num.lx]
    split
    · exact Bal.app (a := [_]) (b := [_]) (Bal.one rfl rfl rfl) (Bal.one rfl rfl rfl)
    · exact Bal.one rfl rfl rfl
theorem bal_op {op : List Nat} {n : Nat} (h1 : op ≠ tLP) (h2 : op ≠ tRP) (h3 : op ≠ tCL) : Bal [(.op op, n)] :=
  Bal.one (by rw [isOp_c]; simp [h1]) (by rw [isOp_c]; simp [h2]) (by rw [isOp_c]; simp [h3])
theorem bal_bin {op : List Nat} {n : Nat} (h : 1 ≤ prioS op) : Bal [(.op op, n)] :=
  bal_op (by rintro rfl; exact absurd h (by decide)) (by rintro rfl; exact absurd h (by decide)) (by rintro rfl; exact absurd h (by decide))
theorem bal_un {op : List Nat} {n : Nat} (h : op = tNOT ∨ op = tPL ∨ op = tMI) : Bal [(.op op, n)] := by
  rcases h with rfl | rfl | rfl <;> exact bal_op (by decide) (by decide) (by decide)
mutual
theorem bal_lx : ∀ t : Tr, Ok t → ∀ n, Bal (posd n (lx t))
  | .bin op l r, h, n => by
    unfold Ok at h
    rw [lx, posd_app]
    refine Bal.app (bal_wrap (bal_lx l h.2.1) _ _) ?_
    rw [posd]
    exact Bal.app (a := [_]) (bal_bin (ops_prio h.1)) (bal_wrap (bal_lx r h.2.2) _ _)
  | .un op a, h, n => by
    unfold Ok at h
    rw [lx, posd]
    exact Bal.app (a := [_]) (bal_un h.1) (bal_wrap (bal_lx a h.2) _ _)
  | .nam s, h, n => Bal.one rfl rfl rfl
  | .ref s as, h, n => by
    unfold Ok at h
    rw [lx, posd, posd, posd_app]
    exact Bal.app (a := [_]) (Bal.one rfl rfl rfl) (Bal.br (bal_row as h.2 _).c)
  | .sub b lo hi, h, n => by
    unfold Ok at h
    rw [lx, posd_app]
    refine Bal.app (bal_lx b h.2.1 _) ?_
    rw [posd, posd_app, posd, posd_app]
    have e : ∀ (p q r : Nat) (x y : Toks), ((Lx.lpA.tok, p) :: (x ++ (Lx.tok (.o tCL), q) :: (y ++ posd r [.o tRP]))) = (Tok.op tLP, p) :: ((x ++ ([(Tok.op tCL, q)] ++ y)) ++ [(Tok.op tRP, r)]) := by
      intros; simp [posd, Lx.tok]
    rw [e]
    exact Bal.br (BalC.app (bal_lxO lo h.2.2.1 _).c (BalC.app BalC.colon (bal_lxO hi h.2.2.2 _).c))
  | .int _, _, n => Bal.one rfl rfl rfl
  | .real _ _, _, n => Bal.one rfl rfl rfl
  | .dble _ _, _, n => Bal.one rfl rfl rfl
  | .log _, _, n => Bal.one rfl rfl rfl
  | .chr _, _, n => Bal.one rfl rfl rfl
  | .cplx a b, _, n => by
    rw [lx, posd, posd_app, posd, posd_app]
    have e : ∀ (p q r : Nat) (x y : Toks), ((Lx.tok (.o tLP), p) :: (x ++ (Lx.tok (.o tCM), q) :: (y ++ posd r [.o tRP]))) = (Tok.op tLP, p) :: ((x ++ ([(Tok.op tCM, q)] ++ y)) ++ [(Tok.op tRP, r)]) := by
      intros; simp [posd, Lx.tok]
    rw [e]
    exact Bal.br (Bal.app (bal_num a _) (Bal.app (bal_op (by decide) (by decide) (by decide)) (bal_num b _))).c
theorem bal_lxO : ∀ t : TrO, OkO t → ∀ n, Bal (posd n (lxO t))
  | .none, _, _ => Bal.nil
  | .some t, h, n => by unfold OkO at h; rw [lxO]; exact bal_lx t h n
theorem bal_row : ∀ t : Trs, Oks t → ∀ n, Bal (posd n (row t))
  | .nil, _, _ => Bal.nil
  | .cons t r, h, n => by
    unfold Oks at h
    rw [row, posd_app]
    exact Bal.app (bal_lx t h.1 _) (bal_rowT r h.2 _)
theorem bal_rowT : ∀ t : Trs, Oks t → ∀ n, Bal (posd n (rowT t))
  | .nil, _, _ => Bal.nil
  | .cons t r, h, n => by
    unfold Oks at h
    rw [rowT, posd, posd_app]
    exact Bal.app (a := [_]) (bal_op (by decide) (by decide) (by decide)) (Bal.app (bal_lx t h.1 _) (bal_rowT r h.2 _))
end
theorem isCut_no {x : Toks} {n m : Nat} {rest : Toks} (h : Bal x) : isCut ((.op tLP, n) :: (x ++ (.op tRP, m) :: rest)) = .ok false := by
  unfold isCut
  rw [cl_lp, h.1 _ _ (by decide), cl_rp, if_pos (by decide)]
  show Out.ok (cutScan (0 + x.length + 1 - 1) (x ++ _) 0) = _
  have : 0 + x.length + 1 - 1 = x.length + 0 := by omega
  rw [this, h.2 _ _ _ (by decide)]
  rfl
theorem isCut_yes {x y : Toks} {n m p : Nat} {rest : Toks} (h : Bal x) (g : Bal y) : isCut ((.op tLP, n) :: (x ++ (.op tCL, m) :: (y ++ (.op tRP, p) :: rest))) = .ok true := by
  have hc : BalC (x ++ ([(.op tCL, m)] ++ y)) := BalC.app h.c (BalC.app BalC.colon g.c)
  have e : ((.op tLP, n) :: (x ++ (.op tCL, m) :: (y ++ (.op tRP, p) :: rest)) : Toks) = (.op tLP, n) :: ((x ++ ([(.op tCL, m)] ++ y)) ++ (.op tRP, p) :: rest) := by simp
  unfold isCut
  have hcl : closeAt ((.op tLP, n) :: (x ++ (.op tCL, m) :: (y ++ (.op tRP, p) :: rest))) 0 = some (x.length + (1 + y.length) + 1) := by
    rw [e, cl_lp, hc.1 _ _ (by decide), cl_rp, if_pos (by decide)]
    simp only [Option.map_some, List.length_append, List.length_singleton]
    congr 1; omega
  rw [hcl]
  show Out.ok (cutScan (x.length + (1 + y.length) + 1 - 1) (x ++ _) 0) = _
  have : x.length + (1 + y.length) + 1 - 1 = x.length + (y.length + 1) := by omega
  rw [this, h.2 _ _ _ (by decide)]
  rfl
end Mine
namespace Mine
/-! the text's pieces read back -/
def upB : Tr → Nat
  | .bin op _ _ => rightB (prioS op)
  | .un op _ => unB op
  | _ => 100
def isRelT : Tr → Bool
  | .bin op _ _ => decide (prioS op = 5)
  | _ => false
def wl : List Lx → Nat
  | [] => 0
  | x :: r => wT x.tok + wl r
theorem wl_app (a b : List Lx) : wl (a ++ b) = wl a + wl b := by
  induction a with
  | nil => simp [wl]
  | cons x r ih => simp only [List.cons_append, wl, ih]; omega
theorem wt_posd (a : List Lx) : ∀ n, wt (posd n a) = wl a := by
  induction a with
  | nil => intro n; rfl
  | cons x r ih => intro n; rw [posd, wt, ih]; rfl
theorem wl_lpA : wT Lx.lpA.tok = 6 := rfl
theorem wl_lp : wT (Lx.o tLP).tok = 6 := rfl
theorem wl_rp : wl [Lx.o tRP] = 0 := rfl
theorem wl_cl : wT (Lx.o tCL).tok = 0 := rfl
theorem wl_cm : wT (Lx.o tCM).tok = 0 := rfl
theorem wl_t : wl (wrap true l) = 6 + wl l := by
  show wl (.o tLP :: (l ++ [.o tRP])) = _
  rw [wl, wl_app, wl_lp, wl_rp]; omega
theorem wT_bin {op : List Nat} (h : 1 ≤ prioS op) : wT (.op op) = 2 := by
  show (if op = tLP then 6 else if 1 ≤ prioS op ∨ op = tNOT then 2 else 0) = 2
  rw [if_neg (by rintro rfl; exact absurd h (by decide)), if_pos (Or.inl h)]
theorem wT_un {op : List Nat} (h : op = tNOT ∨ op = tPL ∨ op = tMI) : wT (.op op) = 2 := by
  rcases h with rfl | rfl | rfl <;> rfl
/-! heads -/
def HD (l : List Lx) : Prop := ∀ n rest, isOp tRP (posd n l ++ rest) = false ∧ isOp tCL (posd n l ++ rest) = false
theorem hd_wrap {l m : List Lx} (h : HD l) (b : Bool) : HD (wrap b l ++ m) := by
  intro n rest
  cases b with
  | true => exact ⟨rfl, rfl⟩
  | false =>
    rw [show wrap false l = l from rfl, posd_app, List.append_assoc]
    exact h n _
theorem hd_app {l m : List Lx} (h : HD l) : HD (l ++ m) := hd_wrap (b := false) h
theorem hd_lx : ∀ t : Tr, Ok t → HD (lx t)
  | .bin op l r, h => by
    unfold Ok at h
    rw [lx]
    exact hd_wrap (hd_lx l h.2.1) _
  | .un op a, h => by
    unfold Ok at h
    rw [lx]
    rcases h.1 with rfl | rfl | rfl <;> exact fun n rest => ⟨rfl, rfl⟩
  | .nam _, _ => fun n rest => ⟨rfl, rfl⟩
  | .ref _ _, _ => fun n rest => by rw [lx]; exact ⟨rfl, rfl⟩
  | .sub b lo hi, h => by
    unfold Ok at h
    rw [lx]
    exact hd_app (hd_lx b h.2.1)
  | .int _, _ => fun n rest => ⟨rfl, rfl⟩
  | .real _ _, _ => fun n rest => ⟨rfl, rfl⟩
  | .dble _ _, _ => fun n rest => ⟨rfl, rfl⟩
  | .log _, _ => fun n rest => ⟨rfl, rfl⟩
  | .chr _, _ => fun n rest => ⟨rfl, rfl⟩
  | .cplx _ _, _ => fun n rest => by rw [lx]; exact ⟨rfl, rfl⟩
/-! no comma behind a bare number -/
def NC (l : List Lx) : Prop := ∀ n rest, isOp tCM rest = false → (∀ c, partTok (posd n l ++ rest) = some c → isOp tCM c = false) ∧ (∀ c, partTok (skipSign (posd n l ++ rest)) = some c → isOp tCM c = false)
theorem nc_wrap {l : List Lx} (h : NC l) (b : Bool) : NC (wrap b l) := by
  cases b with
  | false => exact h
  | true => exact fun n rest _ => ⟨fun c hc => (by cases hc), fun c hc => (by cases hc)⟩
theorem nc_app {l : List Lx} {x : Lx} {m : List Lx} (h : NC l) (hx : ∀ n r, isOp tCM ((x.tok, n) :: r) = false) : NC (l ++ x :: m) := by
  intro n rest hr
  rw [posd_app, List.append_assoc, posd, List.cons_append]
  exact h n _ (hx _ _)
theorem cm_bin {op : List Nat} (h : 1 ≤ prioS op) (n : Nat) (r : Toks) : isOp tCM (((Lx.o op).tok, n) :: r) = false := by
  show decide (op = tCM) = false
  rw [decide_eq_false_iff_not]
  rintro rfl
  exact absurd h (by decide)
theorem nc_lx : ∀ t : Tr, Ok t → NC (lx t)
  | .bin op l r, h => by
    unfold Ok at h
    rw [lx]
    exact nc_app (nc_wrap (nc_lx l h.2.1) _) (cm_bin (ops_prio h.1))
  | .un op a, h => by
    unfold Ok at h
    have ih := nc_wrap (nc_lx a h.2) (decide (bindT a < unB op))
    rw [lx]
    intro n rest hr
    rw [posd, List.cons_append]
    refine ⟨fun c hc => (by cases hc), fun c hc => ?_⟩
    rcases h.1 with rfl | rfl | rfl
    · cases hc
    · exact (ih _ rest hr).1 c hc
    · exact (ih _ rest hr).1 c hc
  | .nam _, _ => fun n rest _ => ⟨fun c hc => (by cases hc), fun c hc => (by cases hc)⟩
  | .ref _ _, _ => fun n rest _ => by rw [lx]; exact ⟨fun c hc => (by cases hc), fun c hc => (by cases hc)⟩
  | .sub b lo hi, h => by
    unfold Ok at h
    rw [lx]
    exact nc_app (nc_lx b h.2.1) fun _ _ => rfl
  | .int _, _ => fun n rest hr => ⟨fun c hc => (by cases hc; exact hr), fun c hc => (by cases hc; exact hr)⟩
  | .real _ _, _ => fun n rest hr => ⟨fun c hc => (by cases hc; exact hr), fun c hc => (by cases hc; exact hr)⟩
  | .dble _ _, _ => fun n rest _ => ⟨fun c hc => (by cases hc), fun c hc => (by cases hc)⟩
  | .log _, _ => fun n rest _ => ⟨fun c hc => (by cases hc), fun c hc => (by cases hc)⟩
  | .chr _, _ => fun n rest _ => ⟨fun c hc => (by cases hc), fun c hc => (by cases hc)⟩
  | .cplx _ _, _ => fun n rest _ => by rw [lx]; exact ⟨fun c hc => (by cases hc), fun c hc => (by cases hc)⟩
theorem not_cplx {l : List Lx} (h : NC l) {n m p : Nat} {rest : Toks} : isCplx ((.op tLP, n) :: (posd m l ++ (.op tRP, p) :: rest)) = false := by
  unfold isCplx
  rw [List.tail_cons, partEnd_eq]
  cases hc : partTok (skipSign (posd m l ++ (.op tRP, p) :: rest)) with
  | none => rfl
  | some c =>
    have := (h m ((.op tRP, p) :: rest) rfl).2 c hc
    dsimp only
    rw [this]
/-! what is to be shown of a tree -/
def RT (t : Tr) : Prop := ∀ m least n rest, wl (lx t) ≤ m → 1 ≤ least → least ≤ bindT t → prio rest < upB t → isOp tLP rest = false →
  ∃ K, rest.length < K ∧ pB (m + 6) least (posd n (lx t) ++ rest) = pLoop (pB (m + 5)) least K t (isRelT t) rest
theorem loop_stop {rec : Nat → Toks → Out (Tr × Toks)} {least K : Nat} {t : Tr} {w : Bool} {rest : Toks} (hK : rest.length < K) (hp : prio rest < least) : pLoop rec least K t w rest = .ok (t, rest) := by
  obtain ⟨K, rfl⟩ : ∃ k, K = k + 1 := ⟨K - 1, by omega⟩
  unfold pLoop
  rw [if_neg (by omega)]
theorem upB_bind (t : Tr) (h : Ok t) : bindT t ≤ upB t := by
  match t, h with
  | .bin op _ _, h => 
    show prioS op ≤ rightB (prioS op)
    unfold rightB
    have := prioS_le op
    split <;> omega
  | .un op _, h =>
    show (if op = tNOT then 4 else 7) ≤ if op = tNOT then 5 else 8
    split <;> omega
  | .nam _, _ | .ref _ _, _ | .sub _ _ _, _ | .int _, _ | .real _ _, _ | .dble _ _, _ | .log _, _ | .chr _, _ | .cplx _ _, _ => exact (by decide : 10 ≤ 100)
theorem bind_pos (t : Tr) (h : Ok t) : 1 ≤ bindT t := by
  match t, h with
  | .bin op _ _, h => unfold Ok at h; exact ops_prio h.1
  | .un op _, h =>
    show 1 ≤ (if op = tNOT then 4 else 7)
    split <;> omega
  | .nam _, _ | .ref _ _, _ | .sub _ _ _, _ | .int _, _ | .real _ _, _ | .dble _ _, _ | .log _, _ | .chr _, _ | .cplx _ _, _ => exact (by decide : 1 ≤ 10)
theorem rel_bind {t : Tr} (h : isRelT t = true) : bindT t = 5 := by
  match t, h with
  | .bin op _ _, h => exact of_decide_eq_true h
/-- an argument -/
theorem RT.arg {t : Tr} (h : RT t) (ok : Ok t) {m n : Nat} {rest : Toks} (hw : wl (lx t) ≤ m) (hp : prio rest = 0) (hL : isOp tLP rest = false) : pB (m + 6) 1 (posd n (lx t) ++ rest) = .ok (t, rest) := by
  have h1 := bind_pos t ok
  have h2 := upB_bind t ok
  obtain ⟨K, hK, e⟩ := h m 1 n rest hw (Nat.le_refl _) h1 (by omega) hL
  rw [e]
  exact loop_stop hK (by omega)
theorem first_lp {rec recU : Nat → Toks → Out (Tr × Toks)} {least n : Nat} {r : Toks} : pFirst rec recU least ((.op tLP, n) :: r) = pBracket rec ((.op tLP, n) :: r) := rfl
/-- an operand, with its brackets where it needs them -/
theorem RT.opd {t : Tr} (h : RT t) (ok : Ok t) {k m least n : Nat} {rest : Toks} (hw : wl (wrap (decide (bindT t < k)) (lx t)) ≤ m) (h0 : 1 ≤ least) (hk : least ≤ k) (hu : k ≤ bindT t → prio rest < upB t) (hL : isOp tLP rest = false) :
    ∃ K w, rest.length < K ∧ (w = true → bindT t = 5 ∧ k ≤ bindT t) ∧ pB (m + 6) least (posd n (wrap (decide (bindT t < k)) (lx t)) ++ rest) = pLoop (pB (m + 5)) least K t w rest := by
  by_cases hb : bindT t < k
  · rw [decide_eq_true hb] at hw ⊢
    rw [wl_t] at hw
    obtain ⟨m, rfl⟩ : ∃ j, m = j + 6 := ⟨m - 6, by omega⟩
    have e : posd n (wrap true (lx t)) ++ rest = (.op tLP, n) :: (posd (n + (Lx.o tLP).tx.length) (lx t) ++ (.op tRP, n + (Lx.o tLP).tx.length + (txs (lx t)).length) :: rest) := by
      show posd n (.o tLP :: (lx t ++ [.o tRP])) ++ rest = _
      simp only [posd, posd_app, List.cons_append, List.append_assoc, List.nil_append, Lx.tok]
    rw [e, pB_eq, first_lp]
    have e2 := h.arg ok (m := m) (n := n + (Lx.o tLP).tx.length) (rest := (.op tRP, n + (Lx.o tLP).tx.length + (txs (lx t)).length) :: rest) (by omega) rfl rfl
    unfold pBracket
    rw [not_cplx (nc_lx t ok), List.tail_cons]
    dsimp only
    rw [e2, ok_bind]
    refine ⟨_, false, ?_, fun q => (by cases q), rfl⟩
    simp only [List.length_cons, List.length_append]; omega
  · rw [decide_eq_false hb] at hw ⊢
    obtain ⟨K, hK, e⟩ := h m least n rest hw h0 (by omega) (hu (by omega)) hL
    exact ⟨K, _, hK, fun q => ⟨rel_bind q, by omega⟩, e⟩
theorem RT.right {t : Tr} (h : RT t) (ok : Ok t) {k m n : Nat} {rest : Toks} (hw : wl (wrap (decide (bindT t < k)) (lx t)) ≤ m) (h0 : 1 ≤ k) (hp : prio rest < k) (hL : isOp tLP rest = false) :
    pB (m + 6) k (posd n (wrap (decide (bindT t < k)) (lx t)) ++ rest) = .ok (t, rest) := by
  obtain ⟨K, w, hK, _, e⟩ := h.opd ok (n := n) (rest := rest) hw h0 (Nat.le_refl _) (fun q => by have := upB_bind t ok; omega) hL
  rw [e]
  exact loop_stop hK hp
def RTs : Trs → Prop
  | .nil => True
  | .cons t r => RT t ∧ RTs r
def RTO : TrO → Prop
  | .none => True
  | .some t => RT t
def lenT : Trs → Nat
  | .nil => 0
  | .cons _ r => lenT r + 1
theorem lenT_le : ∀ r : Trs, lenT r ≤ (rowT r).length
  | .nil => Nat.le_refl _
  | .cons t r => by
    rw [rowT, lenT, List.length_cons, List.length_append]
    have := lenT_le r
    omega
theorem args_rt {m : Nat} : ∀ (r : Trs) (t : Tr), RT t → RTs r → Ok t → Oks r → wl (lx t ++ rowT r) ≤ m → ∀ (k n p : Nat) (rest : Toks), lenT r < k →
    argLoop (pB (m + 6)) k (posd n (lx t ++ rowT r) ++ (.op tRP, p) :: rest) = .ok (.cons t r, rest)
  | .nil, t, h, hs, ok, oks, hw, k, n, p, rest, hk => by
    obtain ⟨k, rfl⟩ : ∃ j, k = j + 1 := ⟨k - 1, by omega⟩
    rw [rowT, List.append_nil] at hw ⊢
    unfold argLoop
    rw [h.arg ok hw rfl rfl, ok_bind]
    rfl
  | .cons t2 r, t, h, hs, ok, oks, hw, k, n, p, rest, hk => by
    unfold Oks at oks
    unfold RTs at hs
    obtain ⟨k, rfl⟩ : ∃ j, k = j + 1 := ⟨k - 1, by unfold lenT at hk; omega⟩
    rw [rowT] at hw ⊢
    rw [wl_app, wl] at hw
    rw [posd_app, posd, List.append_assoc, List.cons_append]
    unfold argLoop
    rw [h.arg ok (by omega) rfl rfl, ok_bind]
    have ih := args_rt (m := m) r t2 hs.1 hs.2 oks.1 oks.2 (by omega) k (n + (txs (lx t)).length + (Lx.o tCM).tx.length) p rest (by unfold lenT at hk; omega)
    rw [show ∀ (q : Nat) (l : Toks), isOp tCM ((Lx.tok (.o tCM), q) :: l) = true from fun _ _ => rfl]
    dsimp only
    rw [List.tail_cons, ih]
    rfl
theorem pArgs_rt {m : Nat} {as : Trs} (h : RTs as) (ok : Oks as) (hw : wl (row as) ≤ m) (q n p : Nat) (rest : Toks) : pArgs (pB (m + 6)) ((.op tLP, q) :: (posd n (row as) ++ (.op tRP, p) :: rest)) = .ok (as, rest) := by
  unfold pArgs
  rw [show needOp tLP ((.op tLP, q) :: (posd n (row as) ++ (.op tRP, p) :: rest)) = .ok (posd n (row as) ++ (.op tRP, p) :: rest) from rfl, ok_bind]
  cases as with
  | nil => rfl
  | cons t r =>
    unfold Oks at ok
    unfold RTs at h
    rw [row] at hw ⊢
    rw [(hd_app (hd_lx t ok.1) n _).1]
    dsimp only
    refine args_rt r t h.1 h.2 ok.1 ok.2 hw _ _ _ _ ?_
    have := lenT_le r
    simp only [List.length_append, posd_len, List.length_cons]
    omega
theorem pPart_rt {m : Nat} {o : TrO} (h : RTO o) (ok : OkO o) (hw : wl (lxO o) ≤ m) (s : List Nat) (hs : s = tCL ∨ s = tRP) (n p : Nat) (rest : Toks) : pPart (pB (m + 6)) s (posd n (lxO o) ++ (.op s, p) :: rest) = .ok (o, (.op s, p) :: rest) := by
  unfold pPart
  cases o with
  | none =>
    rw [show posd n (lxO .none) ++ (Tok.op s, p) :: rest = (Tok.op s, p) :: rest from rfl]
    rw [isOp_c, decide_eq_true rfl]
  | some t =>
    unfold OkO at ok
    unfold RTO at h
    rw [lxO] at hw ⊢
    have hd := hd_lx t ok n ((.op s, p) :: rest)
    have : isOp s (posd n (lx t) ++ (.op s, p) :: rest) = false := by
      rcases hs with rfl | rfl
      · exact hd.2
      · exact hd.1
    rw [this]
    dsimp only
    rw [h.arg ok hw (by rcases hs with rfl | rfl <;> rfl) (by rcases hs with rfl | rfl <;> rfl)]
    rfl
theorem pCut_rt {m : Nat} {lo hi : TrO} (h1 : RTO lo) (h2 : RTO hi) (o1 : OkO lo) (o2 : OkO hi) (hw1 : wl (lxO lo) ≤ m) (hw2 : wl (lxO hi) ≤ m) (b : Tr) (q n1 p n2 p2 : Nat) (rest : Toks) :
    pCut (pB (m + 6)) b ((.op tLP, q) :: (posd n1 (lxO lo) ++ (.op tCL, p) :: (posd n2 (lxO hi) ++ (.op tRP, p2) :: rest))) = .ok (.sub b lo hi, rest) := by
  unfold pCut
  rw [show ∀ l, needOp tLP ((.op tLP, q) :: l) = .ok l from fun _ => rfl, ok_bind, pPart_rt h1 o1 hw1 tCL (.inl rfl), ok_bind]
  rw [show ∀ l, needOp tCL ((.op tCL, p) :: l) = .ok l from fun _ => rfl, ok_bind, pPart_rt h2 o2 hw2 tRP (.inr rfl), ok_bind]
  rfl
theorem cplx_num {a : Num} {n p : Nat} {s : List Nat} {rest : Toks} : partEnd (posd n a.lx ++ (.op s, p) :: rest) = some ((.op s, p) :: rest) ∧ cplxPart (posd n a.lx ++ (.op s, p) :: rest) = .ok (a, (.op s, p) :: rest) := by
  cases a with
  | int i =>
    simp only [Num.lx]
    by_cases hi : i < 0
    · rw [if_pos hi]
      refine ⟨rfl, ?_⟩
      show Out.ok (Num.int ((-1) * ((i.natAbs : Nat) : Int)), _) = _
      have : (-1) * ((i.natAbs : Nat) : Int) = i := by omega
      rw [this]
      rfl
    · rw [if_neg hi]
      refine ⟨rfl, ?_⟩
      show Out.ok (Num.int (1 * ((i.natAbs : Nat) : Int)), _) = _
      have : 1 * ((i.natAbs : Nat) : Int) = i := by omega
      rw [this]
      rfl
  | real i e =>
    simp only [Num.lx]
    by_cases hi : i < 0
    · rw [if_pos hi]
      refine ⟨rfl, ?_⟩
      show Out.ok (Num.real ((-1) * ((i.natAbs : Nat) : Int)) e, _) = _
      have : (-1) * ((i.natAbs : Nat) : Int) = i := by omega
      rw [this]
      rfl
    · rw [if_neg hi]
      refine ⟨rfl, ?_⟩
      show Out.ok (Num.real (1 * ((i.natAbs : Nat) : Int)) e, _) = _
      have : 1 * ((i.natAbs : Nat) : Int) = i := by omega
      rw [this]
      rfl
theorem left_up {lv : Nat} {t : Tr} (h9 : lv ≤ 9) (h1 : 1 ≤ lv) (h : leftB lv ≤ bindT t) : lv < upB t := by
  have hl : lv ≤ leftB lv := by unfold leftB; split <;> (try split) <;> omega
  match t, h with
  | .bin op _ _, h =>
    have h : leftB lv ≤ prioS op := h
    show lv < rightB (prioS op)
    have := prioS_le op
    unfold rightB
    unfold leftB at h
    split at h
    · omega
    · split <;> split at h <;> omega
  | .un op _, h =>
    have h : leftB lv ≤ if op = tNOT then 4 else 7 := h
    show lv < if op = tNOT then 5 else 8
    split <;> rename_i q
    · rw [if_pos q] at h; omega
    · rw [if_neg q] at h; omega
  | .nam _, h | .ref _ _, h | .sub _ _ _, h | .int _, h | .real _ _, h | .dble _ _, h | .log _, h | .chr _, h | .cplx _ _, h => exact (show lv < 100 by omega)
end Mine
namespace Mine
theorem leaf_rt {t : Tr} (hr : isRelT t = false) (h : ∀ m least n rest, wl (lx t) ≤ m → isOp tLP rest = false → pFirst (pB m) (pB (m + 4)) least (posd n (lx t) ++ rest) = .ok (t, rest)) : RT t := by
  intro m least n rest hw h0 hb hu hL
  rw [pB_eq, h m least n rest hw hL, ok_bind, hr]
  exact ⟨_, by rw [List.length_append]; omega, rfl⟩
theorem named_ref {m : Nat} {s : List Nat} {as : Trs} (h : RTs as) (ok : Oks as) (hw : wl (row as) ≤ m) (q n p : Nat) (rest : Toks) :
    pNamed (pB (m + 6)) s ((.op tLP, q) :: (posd n (row as) ++ (.op tRP, p) :: rest)) = match isOp tLP rest with
      | true => pCut (pB (m + 6)) (.ref s as) rest
      | false => .ok (.ref s as, rest) := by
  rw [pNamed_eq]
  rw [show ∀ l, isOp tLP ((.op tLP, q) :: l) = true from fun _ => rfl]
  dsimp only
  rw [isCut_no (bal_row as ok n), ok_bind]
  unfold argsPart
  rw [pArgs_rt h ok hw, ok_bind, ok_bind]
  all_goals rfl
theorem first_nam {rec recU : Nat → Toks → Out (Tr × Toks)} {least n : Nat} {s : List Nat} {r : Toks} : pFirst rec recU least ((.nam s, n) :: r) = pNamed rec s r := rfl
theorem prioC {op : List Nat} {n : Nat} {r : Toks} : prio (((Lx.o op).tok, n) :: r) = prioS op := rfl
mutual
theorem rt : ∀ t : Tr, Ok t → RT t
  | .bin op l r, h => by
    unfold Ok at h
    have L := rt l h.2.1
    have R := rt r h.2.2
    have hp := ops_prio h.1
    have h9 := prioS_le op
    have hT : wT (Lx.o op).tok = 2 := wT_bin hp
    intro m least n rest hw h0 hb hu hL
    have hb : least ≤ prioS op := hb
    have hu : prio rest < rightB (prioS op) := hu
    rw [lx, wl_app, wl] at hw
    rw [lx, posd_app, posd, List.append_assoc, List.cons_append]
    have hl : prioS op ≤ leftB (prioS op) := by unfold leftB; split <;> (try split) <;> omega
    generalize hq : n + (txs (wrap (decide (bindT l < leftB (prioS op))) (lx l))).length = q
    generalize hq' : q + (Lx.o op).tx.length = q'
    obtain ⟨K, w, hK, hwr, e⟩ := L.opd h.2.1 (k := leftB (prioS op)) (m := m) (least := least) (n := n) (rest := ((Lx.o op).tok, q) :: (posd q' (wrap (decide (bindT r < rightB (prioS op))) (lx r)) ++ rest)) (by omega) h0 (by omega) (fun k => left_up h9 hp k) (by show decide (op = tLP) = false; rw [decide_eq_false_iff_not]; rintro rfl; exact absurd hp (by decide))
    rw [e]
    obtain ⟨K, rfl⟩ : ∃ j, K = j + 1 := ⟨K - 1, by omega⟩
    obtain ⟨j, rfl⟩ : ∃ j, m = j + 1 := ⟨m - 1, by omega⟩
    have e2 := R.right h.2.2 (k := rightB (prioS op)) (m := j) (n := q') (rest := rest) (by omega) (by unfold rightB; split <;> omega) hu hL
    refine ⟨K, by simp only [List.length_cons, List.length_append] at hK; omega, ?_⟩
    conv => lhs; unfold pLoop
    rw [prioC, if_pos hb, if_neg (by
      rintro ⟨k1, k2⟩
      obtain ⟨k3, k4⟩ := hwr k2
      rw [k1] at k4
      unfold leftB at k4
      simp at k4
      omega), List.tail_cons]
    change (pB (j + 6) (rightB (prioS op)) (posd q' (wrap (decide (bindT r < rightB (prioS op))) (lx r)) ++ rest)).bind _ = _
    rw [e2]
    rfl
  | .un op a, h => by
    unfold Ok at h
    have R := rt a h.2
    intro m least n rest hw h0 hb hu hL
    have hb : least ≤ if op = tNOT then 4 else 7 := hb
    have hu : prio rest < unB op := hu
    have hT : wT (Lx.o op).tok = 2 := wT_un h.1
    rw [lx, wl] at hw
    rw [lx, posd, List.cons_append]
    obtain ⟨j, rfl⟩ : ∃ j, m = j + 2 := ⟨m - 2, by omega⟩
    generalize hq' : n + (Lx.o op).tx.length = q'
    have e2 := R.right h.2 (k := unB op) (m := j) (n := q') (rest := rest) (by omega) (by unfold unB; split <;> decide) hu hL
    refine ⟨(((Lx.o op).tok, n) :: (posd q' (wrap (decide (bindT a < unB op)) (lx a)) ++ rest)).length + 1, ?_, ?_⟩
    rotate_left
    · rw [pB_eq]
      have e3 : pFirst (pB (j + 2)) (pB (j + 2 + 4)) least (((Lx.o op).tok, n) :: (posd q' (wrap (decide (bindT a < unB op)) (lx a)) ++ rest)) = .ok (.un op a, rest) := by
        rcases h.1 with rfl | rfl | rfl
        · unfold pFirst
          rw [show ∀ l, isOp tNOT (((Lx.o tNOT).tok, n) :: l) = true from fun _ => rfl]
          dsimp only
          rw [if_neg (by rw [if_pos rfl] at hb; omega), List.tail_cons]
          change (pB (j + 6) (unB tNOT) _).bind _ = _
          rw [e2]
          rfl
        · unfold pFirst
          rw [show ∀ l, isOp tNOT (((Lx.o tPL).tok, n) :: l) = false from fun _ => rfl]
          dsimp only
          rw [show ∀ l, (isOp tPL (((Lx.o tPL).tok, n) :: l) || isOp tMI (((Lx.o tPL).tok, n) :: l)) = true from fun _ => rfl]
          dsimp only
          rw [if_neg (by rw [if_neg (by decide)] at hb; omega), List.tail_cons]
          change (pB (j + 6) (unB tPL) _).bind _ = _
          rw [e2]
          rfl
        · unfold pFirst
          rw [show ∀ l, isOp tNOT (((Lx.o tMI).tok, n) :: l) = false from fun _ => rfl]
          dsimp only
          rw [show ∀ l, (isOp tPL (((Lx.o tMI).tok, n) :: l) || isOp tMI (((Lx.o tMI).tok, n) :: l)) = true from fun _ => rfl]
          dsimp only
          rw [if_neg (by rw [if_neg (by decide)] at hb; omega), List.tail_cons]
          change (pB (j + 6) (unB tMI) _).bind _ = _
          rw [e2]
          rfl
      rw [e3, ok_bind]
      rfl
    · simp only [List.length_cons, List.length_append]; omega
  | .nam s, h => leaf_rt rfl fun m least n rest hw hL => by
    show pNamed (pB m) s rest = _
    rw [pNamed_eq, hL]
  | .ref s as, h => by
    unfold Ok at h
    have A := rt_row as h.2
    refine leaf_rt rfl fun m least n rest hw hL => ?_
    rw [lx, wl, wl, wl_lpA, wl_app] at hw
    obtain ⟨j, rfl⟩ : ∃ j, m = j + 6 := ⟨m - 6, by omega⟩
    rw [lx]
    simp only [posd, posd_app, List.cons_append, List.append_assoc, List.nil_append, Lx.tok]
    rw [first_nam]
    rw [named_ref A h.2 (by omega), hL]
  | .sub b lo hi, h => by
    unfold Ok at h
    have A := rt_o lo h.2.2.1
    have B := rt_o hi h.2.2.2
    refine leaf_rt rfl fun m least n rest hw hL => ?_
    rw [lx, wl_app, wl, wl_lpA, wl_app, wl, wl_cl, wl_app] at hw
    obtain ⟨j, rfl⟩ : ∃ j, m = j + 6 := ⟨m - 6, by omega⟩
    rw [lx]
    match b, h, hw with
    | .nam s, h, hw =>
      simp only [lx, posd, posd_app, List.cons_append, List.append_assoc, List.nil_append, Lx.tok]
      rw [first_nam]
      rw [pNamed_eq]
      rw [show ∀ q l, isOp tLP ((.op tLP, q) :: l) = true from fun _ _ => rfl]
      dsimp only
      rw [isCut_yes (bal_lxO lo h.2.2.1 _) (bal_lxO hi h.2.2.2 _), ok_bind]
      unfold argsPart
      rw [ok_bind]
      rw [show ∀ q l, isOp tLP ((.op tLP, q) :: l) = true from fun _ _ => rfl]
      dsimp only
      rw [pCut_rt A B h.2.2.1 h.2.2.2 (by omega) (by omega)]
    | .ref s as, h, hw =>
      have oa : Oks as := by have := h.2.1; unfold Ok at this; exact this.2
      have RR := rt_row as oa
      rw [lx, wl, wl, wl_lpA, wl_app] at hw
      simp only [lx, posd, posd_app, List.cons_append, List.append_assoc, List.nil_append, Lx.tok]
      rw [first_nam]
      rw [named_ref RR oa (by omega)]
      rw [show ∀ q l, isOp tLP ((.op tLP, q) :: l) = true from fun _ _ => rfl]
      dsimp only
      rw [pCut_rt A B h.2.2.1 h.2.2.2 (by omega) (by omega)]
  | .int i, h => leaf_rt rfl fun m least n rest hw hL => by
    unfold Ok at h
    show Out.ok (Tr.int i.toNat, rest) = _
    rw [Int.toNat_of_nonneg h.1]
  | .real i e, h => leaf_rt rfl fun m least n rest hw hL => by
    unfold Ok at h
    show Out.ok (Tr.real i.toNat e, rest) = _
    rw [Int.toNat_of_nonneg h.1]
  | .dble i e, h => leaf_rt rfl fun m least n rest hw hL => by
    unfold Ok at h
    show Out.ok (Tr.dble i.toNat e, rest) = _
    rw [Int.toNat_of_nonneg h.1]
  | .log b, h => leaf_rt rfl fun m least n rest hw hL => rfl
  | .chr s, h => leaf_rt rfl fun m least n rest hw hL => rfl
  | .cplx a b, h => leaf_rt rfl fun m least n rest hw hL => by
    rw [lx]
    simp only [posd, posd_app, List.cons_append, List.append_assoc, List.nil_append, Lx.tok]
    rw [first_lp]
    unfold pBracket
    have hc : ∀ (q1 q2 q3 q4 q5 : Nat), isCplx ((.op tLP, q1) :: (posd q2 a.lx ++ (.op tCM, q3) :: (posd q4 b.lx ++ (.op tRP, q5) :: rest))) = true := by
      intro q1 q2 q3 q4 q5
      unfold isCplx
      rw [List.tail_cons, cplx_num.1]
      dsimp only
      rw [show ∀ l, isOp tCM ((.op tCM, q3) :: l) = true from fun _ => rfl]
      dsimp only
      rw [List.tail_cons, cplx_num.1]
      rfl
    rw [hc]
    dsimp only
    rw [List.tail_cons, cplx_num.2, ok_bind]
    dsimp only
    rw [List.tail_cons, cplx_num.2, ok_bind]
    rfl
theorem rt_o : ∀ o : TrO, OkO o → RTO o
  | .none, _ => trivial
  | .some t, h => by unfold OkO at h; unfold RTO; exact rt t h
theorem rt_row : ∀ as : Trs, Oks as → RTs as
  | .nil, _ => trivial
  | .cons t r, h => by unfold Oks at h; unfold RTs; exact ⟨rt t h.1, rt_row r h.2⟩
end
/-- the text's tokens are read as the tree -/
theorem read_back {t : Tr} (h : Ok t) {m : Nat} (hw : wl (lx t) ≤ m) : pB (m + 6) 1 (posd 0 (lx t)) = .ok (t, []) := by
  have := (rt t h).arg h (m := m) (n := 0) (rest := []) hw rfl rfl
  rw [List.append_nil] at this
  exact this
/-- fewer brackets: another tree -/
theorem read_other {t : Tr} (h : Ok t) {n : Nat} {l : Toks} {r : Tr} (hr : pB n 1 l = .ok (r, [])) (hl : opens l < opl (lx t)) : r ≠ t := by
  rintro rfl
  have := (pB_min n 1 l r [] (Nat.le_refl _) (by decide) hr).1
  rw [opl_lx r h] at hl
  have e : opens [] = 0 := rfl
  omega
end Mine
namespace Mine
/-! figures -/
def dg (n : Nat) : List Nat := (Nat.toDigits 10 n).map Char.toNat
theorem intText_nat (n : Nat) : intText (n : Int) = dg n := by
  unfold intText dg
  show ((Nat.repr n).toList).map Char.toNat = _
  rw [Nat.repr_eq_ofList_toDigits, String.toList_ofList]
theorem intText_neg (n : Nat) : intText (-((n + 1 : Nat) : Int)) = 45 :: dg (n + 1) := by
  unfold intText dg
  show ((("-" : String) ++ Nat.repr (n + 1)).toList).map Char.toNat = _
  rw [String.toList_append, Nat.repr_eq_ofList_toDigits, List.map_append, String.toList_ofList, String.toList_ofList]
  rfl
theorem dg_step (n : Nat) (h : 10 ≤ n) : dg n = dg (n / 10) ++ [48 + n % 10] := by
  unfold dg
  rw [Nat.toDigits_of_base_le (by decide) h, List.map_append]
  congr 1
  have : n % 10 < 10 := Nat.mod_lt _ (by decide)
  generalize n % 10 = k at this
  match k, this with
  | 0, _ | 1, _ | 2, _ | 3, _ | 4, _ | 5, _ | 6, _ | 7, _ | 8, _ | 9, _ => rfl
theorem dg_small (n : Nat) (h : n < 10) : dg n = [48 + n] := by
  match n, h with
  | 0, _ | 1, _ | 2, _ | 3, _ | 4, _ | 5, _ | 6, _ | 7, _ | 8, _ | 9, _ => rfl
theorem dg_dig (n : Nat) : ∀ c ∈ dg n, 48 ≤ c ∧ c ≤ 57 := by
  induction n using Nat.strongRecOn with
  | ind n ih =>
    intro c hc
    by_cases h : n < 10
    · rw [dg_small n h] at hc
      rw [List.mem_singleton.mp hc]; omega
    · rw [dg_step n (by omega)] at hc
      rcases List.mem_append.mp hc with q | q
      · exact ih (n / 10) (by omega) c q
      · rw [List.mem_singleton.mp q]; omega
theorem digitsVal_snoc (l : List Nat) (c : Nat) : digitsVal (l ++ [c]) = digitsVal l * 10 + (c - 48) := by
  unfold digitsVal
  rw [List.foldl_append]; rfl
theorem dg_val (n : Nat) : digitsVal (dg n) = n := by
  induction n using Nat.strongRecOn with
  | ind n ih =>
    by_cases h : n < 10
    · rw [dg_small n h]
      show 0 * 10 + (48 + n - 48) = n
      omega
    · rw [dg_step n (by omega), digitsVal_snoc, ih (n / 10) (by omega)]
      omega
theorem dg_pos (n : Nat) : 1 ≤ (dg n).length := by
  by_cases h : n < 10
  · rw [dg_small n h]; exact Nat.le_refl _
  · rw [dg_step n (by omega)]; simp
theorem dg_len (n k : Nat) (h : n < 10 ^ (k + 1)) : (dg n).length ≤ k + 1 := by
  induction k generalizing n with
  | zero => rw [dg_small n (by simpa using h)]; exact Nat.le_refl _
  | succ k ih =>
    by_cases h2 : n < 10
    · rw [dg_small n h2]; simp
    · rw [dg_step n (by omega), List.length_append, List.length_singleton]
      have := ih (n / 10) (by rw [Nat.pow_succ] at h; omega)
      omega
theorem digitsVal_zeros (k : Nat) (l : List Nat) : digitsVal (zerosL k ++ l) = digitsVal l := by
  induction k with
  | zero => rfl
  | succ k ih =>
    rw [show zerosL (k + 1) ++ l = 48 :: (zerosL k ++ l) from rfl]
    show (zerosL k ++ l).foldl _ (0 * 10 + (48 - 48)) = _
    exact ih
def DG (l : List Nat) : Prop := ∀ c ∈ l, 48 ≤ c ∧ c ≤ 57
theorem DG.app {a b : List Nat} (h : DG a) (g : DG b) : DG (a ++ b) := fun c hc => (List.mem_append.mp hc).elim (h c) (g c)
theorem DG.zeros (k : Nat) : DG (zerosL k) := fun c hc => by rw [(List.mem_replicate.mp hc).2]; omega
theorem DG.take {a : List Nat} (h : DG a) (k : Nat) : DG (a.take k) := fun c hc => h c (List.mem_of_mem_take hc)
theorem DG.drop {a : List Nat} (h : DG a) (k : Nat) : DG (a.drop k) := fun c hc => h c (List.mem_of_mem_drop hc)
theorem digitsOk_of {l : List Nat} (h : DG l) (h1 : 1 ≤ l.length) (h2 : l.length ≤ 640) : digitsOk l = true := by
  unfold digitsOk
  have : l.isEmpty = false := by cases l with | nil => simp at h1 | cons => rfl
  rw [this]
  simp only [Bool.not_false, Bool.true_and, Bool.and_eq_true, List.all_eq_true, decide_eq_true_eq]
  exact ⟨fun c hc => by simpa using h c hc, by simpa using h2⟩
/-! places in a text -/
section
variable {T A B R : List Nat} {n k c : Nat} {σ : Store}
theorem at_nil (h : T.drop n = []) : T.length ≤ n := by
  have := congrArg List.length h
  simp only [List.length_drop, List.length_nil] at this; omega
theorem at_lt (h : T.drop n = c :: R) : n < T.length := by
  have := congrArg List.length h
  simp only [List.length_drop, List.length_cons] at this; omega
theorem at_len (h : T.drop n = A ++ B) (hA : 1 ≤ A.length) : n + A.length + B.length = T.length := by
  have := congrArg List.length h
  simp only [List.length_drop, List.length_append] at this; omega
theorem at_next (h : T.drop n = c :: R) : T.drop (n + 1) = R := by
  rw [← List.drop_drop, h]; rfl
theorem at_skip (h : T.drop n = A ++ B) : T.drop (n + A.length) = B := by
  rw [← List.drop_drop, h, List.drop_left]
theorem idx_at (h : T.drop n = c :: R) (hT : T.length ≤ szL) : idxP σ (.str T) (.int n) = some (.str [c]) := by
  have h1 := at_lt h
  have h2 : (Int.natAbs (n : Int)) < 2 ^ 62 := by
    have : szL < 2 ^ 62 := by decide
    simp only [Int.natAbs_natCast]; omega
  have h3 : T[n]? = some c := by
    have := congrArg (fun l => l[0]?) h
    simpa using this
  simp only [idxP, h2, if_true, pyIdx, Int.natCast_nonneg, Int.toNat_natCast, h1, Option.bind_some, h3, Option.map_some]
theorem len_at (hT : T.length ≤ szL) : biP σ .len [.str T] = some (.int T.length) := by
  simp only [biP, hT, if_true]
theorem bnd_nat {a b : Nat} : bnd (a : Int) b = min a b := by
  unfold bnd; rw [if_pos (by omega), Int.toNat_natCast]
theorem cut_gen {a b : Nat} (hT : T.length ≤ szL) : cutP (.str T) (.int a) (.int b) = some (.str (cutL T (min a T.length) (min b T.length))) := by
  simp only [cutP, hT, if_true, boundP, Option.bind_some, Option.map_some, lowOf, highOf, bnd_nat]
theorem cut_mid (h : T.drop n = A ++ B) (hT : T.length ≤ szL) : cutP (.str T) (.int n) (.int ((n + A.length : Nat) : Int)) = some (.str A) := by
  rw [cut_gen hT]
  congr 2
  unfold cutL
  rw [List.drop_take]
  by_cases hn : n ≤ T.length
  · have hl : n + A.length + B.length = T.length := by
      have := congrArg List.length h
      simp only [List.length_drop, List.length_append] at this; omega
    rw [Nat.min_eq_left hn, Nat.min_eq_left (by omega), h, Nat.add_sub_cancel_left, List.take_left]
  · have : T.drop n = [] := List.drop_eq_nil_of_le (by omega)
    rw [this] at h
    have hA : A = [] := by cases A with | nil => rfl | cons => simp at h
    subst hA
    rw [Nat.min_eq_right (show T.length ≤ n by omega), List.drop_length]; simp
theorem cut_end (h : T.drop n = A) (hk : A.length ≤ k) (hn : n ≤ T.length) (hT : T.length ≤ szL) : cutP (.str T) (.int n) (.int ((n + k : Nat) : Int)) = some (.str A) := by
  rw [cut_gen hT]
  congr 2
  unfold cutL
  have hl : n + A.length = T.length := by
    have := congrArg List.length h
    simp only [List.length_drop] at this; omega
  rw [List.drop_take, Nat.min_eq_left hn, Nat.min_eq_right (by omega), h]
  exact List.take_of_length_le (by omega)
theorem in_str (b : List Nat) : cmpP .isin (.str [c]) (.str b) = some (b.contains c) := rfl
theorem notin_str (b : List Nat) : cmpP .notin (.str [c]) (.str b) = some (!b.contains c) := rfl
end
/-- the run's end -/
def NoHead (S : List Nat) (R : List Nat) : Prop := ∀ c r, R = c :: r → S.contains c = false
section
variable {N d : Nat} {T P R S : List Nat} {n : Nat} {σ : Store}
theorem while_run (hT : T.length ≤ szL) (hR : NoHead S R) {a1 : Int} : ∀ (P : List Nat) (n k : Nat), T.drop n = P ++ R → (∀ c ∈ P, S.contains c = true) → P.length < k →
    whileN (ev (callP N d) (.bool true (.cons (.cmp .lt (.var 3) (.bi .len (.cons (.var 0) .nil))) (.cons (.cmp .isin (.idx (.var 0) (.var 3)) (.var 2)) .nil)))).2 (exs (callP N d) N (.cons (.aug 3 .add (.cst (.int 1))) .nil)) k [some (.str T), some (.int a1), some (.str S), some (.int n)] σ = .ok (.next, [some (.str T), some (.int a1), some (.str S), some (.int ((n + P.length : Nat) : Int))], σ)
  | [], n, k, h, _, hk => by
    obtain ⟨k, rfl⟩ : ∃ j, k = j + 1 := ⟨k - 1, by omega⟩
    refine while_stop ?_
    rw [List.nil_append] at h
    cases R with
    | nil =>
      have := at_nil h
      simp only [eg, len_at hT, Nat.not_lt.mpr this]
    | cons c r =>
      simp only [eg, len_at hT, at_lt h, idx_at h hT, in_str, hR c r rfl]
  | c :: P, n, k, h, hP, hk => by
    obtain ⟨k, rfl⟩ : ∃ j, k = j + 1 := ⟨k - 1, by simp at hk; omega⟩
    rw [List.cons_append] at h
    rw [while_step (env' := [some (.str T), some (.int a1), some (.str S), some (.int ((n + 1 : Nat) : Int))]) (σ' := σ) (σ'' := σ) (by simp only [eg, len_at hT, at_lt h, idx_at h hT, in_str, hP c (.head _)]) (by simp only [eg])]
    rw [while_run hT hR P (n + 1) k (at_next h) (fun x hx => hP x (.tail _ hx)) (by simp at hk; omega)]
    simp only [List.length_cons, Nat.add_assoc, Nat.add_comm 1]
theorem k_run (hT : T.length ≤ szL) (hN : T.length < N) (hσ : σ.all noLocs = true) (h : T.drop n = P ++ R) (hP : ∀ c ∈ P, S.contains c = true) (hR : NoHead S R) :
    callP N (d + 1) 0 [.str T, .int n, .str S] σ = .ok (.int ((n + P.length : Nat) : Int), σ) := by
  rw [callP_plain (f := c0) rfl, runFD_args (env := [some (.str T), some (.int n), some (.str S), none]) rfl rfl]
  unfold c0
  rw [exs_next (env' := [some (.str T), some (.int n), some (.str S), some (.int n)]) (σ' := σ) (by simp only [eg])]
  have hl : P.length ≤ T.length := by
    have := congrArg List.length h
    simp only [List.length_drop, List.length_append] at this; omega
  rw [exs_next (by rw [ex_whl]; exact while_run hT hR P n N h hP (by omega))]
  rw [exs_ret (v := .int ((n + P.length : Nat) : Int)) (σ' := σ) (by simp only [eg]; rfl)]
  exact leave_nl (v := .int _) rfl hσ
end
end Mine
namespace Mine
def LETS : List Nat := [65, 66, 67, 68, 69, 70, 71, 72, 73, 74, 75, 76, 77, 78, 79, 80, 81, 82, 83, 84, 85, 86, 87, 88, 89, 90]
def DIGS : List Nat := [48, 49, 50, 51, 52, 53, 54, 55, 56, 57]
def dotL : List (List Nat) := [[46, 69, 81, 46], [46, 78, 69, 46], [46, 76, 84, 46], [46, 76, 69, 46], [46, 71, 84, 46], [46, 71, 69, 46], [46, 78, 79, 84, 46], [46, 65, 78, 68, 46], [46, 79, 82, 46], [46, 69, 81, 86, 46], [46, 78, 69, 81, 86, 46]]
def truL : List (List Nat) := [[46, 84, 82, 85, 69, 46], [46, 70, 65, 76, 83, 69, 46]]
theorem inTup_map (w : List Nat) : ∀ L : List (List Nat), inTup w (L.map PV.str) = some (decide (w ∈ L)) ∧ textsOnly (L.map PV.str) = true
  | [] => ⟨by simp [inTup], rfl⟩
  | x :: L => by
    obtain ⟨h1, h2⟩ := inTup_map w L
    refine ⟨?_, h2⟩
    rw [List.map_cons, inTup, h1]
    by_cases h : w = x <;> simp [h]
theorem isin_tup (w : List Nat) (l : List PV) : cmpP .isin (.str w) (.tup l) = if textsOnly l then inTup w l else none := by
  match w with
  | [] => rfl
  | [_] => rfl
  | _ :: _ :: _ => rfl
theorem isin_dot (w : List Nat) : cmpP .isin (.str w) (.tup [.str [46, 69, 81, 46], .str [46, 78, 69, 46], .str [46, 76, 84, 46], .str [46, 76, 69, 46], .str [46, 71, 84, 46], .str [46, 71, 69, 46], .str [46, 78, 79, 84, 46], .str [46, 65, 78, 68, 46], .str [46, 79, 82, 46], .str [46, 69, 81, 86, 46], .str [46, 78, 69, 81, 86, 46]]) = some (decide (w ∈ dotL)) := by
  have h := inTup_map w dotL
  rw [isin_tup]
  show (if textsOnly (dotL.map PV.str) then inTup w (dotL.map PV.str) else none) = _
  rw [h.2, if_pos rfl, h.1]
theorem isin_tru (w : List Nat) : cmpP .isin (.str w) (.tup [.str [46, 84, 82, 85, 69, 46], .str [46, 70, 65, 76, 83, 69, 46]]) = some (decide (w ∈ truL)) := by
  have h := inTup_map w truL
  rw [isin_tup]
  show (if textsOnly (truL.map PV.str) then inTup w (truL.map PV.str) else none) = _
  rw [h.2, if_pos rfl, h.1]
def dotOf (w : List Nat) : List Nat := if w ∈ dotL ∨ w ∈ truL then w else []
theorem dg_in {c : Nat} (h : 48 ≤ c ∧ c ≤ 57) : DIGS.contains c = true := by
  match c, h with
  | 48, _ | 49, _ | 50, _ | 51, _ | 52, _ | 53, _ | 54, _ | 55, _ | 56, _ | 57, _ => rfl
  | c + 58, h => omega
theorem dg_of {c : Nat} (h : DIGS.contains c = true) : 48 ≤ c ∧ c ≤ 57 := by
  simp [DIGS] at h; omega
section
variable {N d : Nat} {T P R D F X : List Nat} {n c : Nat} {σ : Store}
theorem k_dot (hT : T.length ≤ szL) (hN : T.length < N) (hσ : σ.all noLocs = true) (h : T.drop n = c :: (P ++ R)) (hP : ∀ x ∈ P, LETS.contains x = true) (hR : NoHead LETS R) :
    callP N (d + 2) 1 [.str T, .int n] σ = .ok (.str (dotOf (c :: (P ++ R.take 1))), σ) := by
  rw [callP_plain (f := c1) rfl, runFD_args (env := [some (.str T), some (.int n), none, none]) rfl rfl]
  unfold c1
  have hr := k_run (N := N) (d := d) (σ := σ) hT hN hσ (at_next h) hP hR
  unfold LETS at hr
  rw [exs_next (env' := [some (.str T), some (.int n), some (.int ((n + 1 + P.length : Nat) : Int)), none]) (σ' := σ) (by simp only [eg, hr])]
  have hcut : cutP (.str T) (.int n) (.int ((n + 1 + P.length + 1 : Nat) : Int)) = some (.str (c :: (P ++ R.take 1))) := by
    cases R with
    | nil =>
      have := cut_end (k := P.length + 2) h (by simp) (Nat.le_of_lt (at_lt h)) hT
      rw [show n + 1 + P.length + 1 = n + (P.length + 2) by omega, this]
      rfl
    | cons x r =>
      have := cut_mid (A := c :: (P ++ [x])) (B := r) (by rw [h]; simp) hT
      rw [show n + 1 + P.length + 1 = n + (c :: (P ++ [x])).length by simp; omega, this]
      rfl
  rw [exs_next (env' := [some (.str T), some (.int n), some (.int ((n + 1 + P.length : Nat) : Int)), some (.str (c :: (P ++ R.take 1)))]) (σ' := σ) (by simp only [eg, hcut])]
  generalize c :: (P ++ R.take 1) = w
  unfold dotOf
  by_cases h1 : w ∈ dotL
  · rw [exs_ret (v := .str w) (env' := [some (.str T), some (.int n), some (.int ((n + 1 + P.length : Nat) : Int)), some (.str w)]) (σ' := σ) (by simp only [eg, isin_dot, h1]), if_pos (Or.inl h1)]
    exact leave_nl (v := .str w) rfl hσ
  · by_cases h2 : w ∈ truL
    · rw [exs_ret (v := .str w) (env' := [some (.str T), some (.int n), some (.int ((n + 1 + P.length : Nat) : Int)), some (.str w)]) (σ' := σ) (by simp only [eg, isin_dot, isin_tru, h1, h2]), if_pos (Or.inr h2)]
      exact leave_nl (v := .str w) rfl hσ
    · rw [exs_next (env' := [some (.str T), some (.int n), some (.int ((n + 1 + P.length : Nat) : Int)), some (.str w)]) (σ' := σ) (by simp only [eg, isin_dot, isin_tru, h1, h2]), if_neg (fun q => q.elim h1 h2)]
      rw [exs_ret (v := .str []) (env' := [some (.str T), some (.int n), some (.int ((n + 1 + P.length : Nat) : Int)), some (.str w)]) (σ' := σ) (by simp only [eg])]
      exact leave_nl (v := .str []) rfl hσ
theorem k_told {s : List Nat} {p : Int} (hσ : σ.all noLocs = true) (hN : 1 ≤ N) (hs : DG s) (h1 : 1 ≤ s.length) (h2 : s.length ≤ 640) (hm : digitsVal s ≠ 0 → digitsVal s % 10 ≠ 0) :
    callP N (d + 1) 2 [.str s, .int p] σ = .ok (.tup [.int (digitsVal s), .int (if digitsVal s = 0 then 0 else p)], σ) := by
  rw [callP_plain (f := c2) rfl, runFD_args (env := [some (.str s), some (.int p), none]) rfl rfl]
  unfold c2
  have hi : biP σ .int [.str s] = some (.int (digitsVal s)) := by
    simp only [biP, digitsOk_of hs h1 h2, if_true]
  rw [exs_next (env' := [some (.str s), some (.int p), some (.int (digitsVal s))]) (σ' := σ) (by simp only [eg, hi])]
  have e0 : ((digitsVal s : Int) = 0) = (digitsVal s = 0) := by simp only [eq_iff_iff]; omega
  by_cases h0 : digitsVal s = 0
  · have e0t : ((digitsVal s : Int) = 0) = True := by rw [e0]; simp only [h0]
    rw [exs_ret (v := .tup [.int 0, .int 0]) (env' := [some (.str s), some (.int p), some (.int (digitsVal s))]) (σ' := σ) (by simp only [eg, e0t]), if_pos h0, h0]
    exact leave_nl (v := .tup [.int 0, .int 0]) rfl hσ
  · rw [exs_next (env' := [some (.str s), some (.int p), some (.int (digitsVal s))]) (σ' := σ) (by simp only [eg, e0, h0]), if_neg h0]
    have hmod : binP .mod (.int (digitsVal s)) (.int 10) = some (.int (Int.fmod (digitsVal s) 10)) := rfl
    have hf : (Int.fmod (digitsVal s : Int) 10 = 0) = False := by
      rw [Int.fmod_eq_emod_of_nonneg _ (by decide)]
      have := hm h0
      simp only [eq_iff_iff, iff_false]; omega
    obtain ⟨N', rfl⟩ : ∃ j, N = j + 1 := ⟨N - 1, by omega⟩
    rw [exs_next (env' := [some (.str s), some (.int p), some (.int (digitsVal s))]) (σ' := σ) (by rw [ex_whl]; exact while_stop (by simp only [eg, hmod, hf]))]
    rw [exs_ret (v := .tup [.int (digitsVal s), .int p]) (env' := [some (.str s), some (.int p), some (.int (digitsVal s))]) (σ' := σ) (by simp only [eg])]
    exact leave_nl (v := .tup [.int (digitsVal s), .int p]) rfl hσ
theorem k_pow_no (hT : T.length ≤ szL) (hσ : σ.all noLocs = true) (h : T.drop n = R) (hR : NoHead [69, 68] R) : callP N (d + 1) 3 [.str T, .int n] σ = .ok (.tup [.str [], .int 0, .int n], σ) := by
  rw [callP_plain (f := c3) rfl, runFD_args (env := [some (.str T), some (.int n), none, none, none]) rfl rfl]
  unfold c3
  rw [exs_ret (v := .tup [.str [], .int 0, .int n]) (env' := [some (.str T), some (.int n), none, none, none]) (σ' := σ) ?_]
  · exact leave_nl (v := .tup [.str [], .int 0, .int n]) rfl hσ
  · cases R with
    | nil => simp only [eg, len_at hT, at_nil h]
    | cons c r => simp only [eg, len_at hT, Nat.not_le.mpr (at_lt h), idx_at h hT, notin_str, hR c r rfl]
def sgn (b : Bool) : List Nat := if b then [45] else []
theorem k_pow {L : Nat} {b : Bool} (hT : T.length ≤ szL) (hN : T.length < N) (hσ : σ.all noLocs = true) (h : T.drop n = L :: (sgn b ++ (X ++ R))) (hL : L = 69 ∨ L = 68) (hX : DG X) (h1 : 1 ≤ X.length) (h2 : X.length ≤ 640) (hR : NoHead DIGS R) :
    callP N (d + 2) 3 [.str T, .int n] σ = .ok (.tup [.str [L], .int (if b then -(digitsVal X : Int) else digitsVal X), .int ((n + 1 + (sgn b).length + X.length : Nat) : Int)], σ) := by
  rw [callP_plain (f := c3) rfl, runFD_args (env := [some (.str T), some (.int n), none, none, none]) rfl rfl]
  unfold c3
  have hin : ([69, 68] : List Nat).contains L = true := by rcases hL with rfl | rfl <;> rfl
  have hn1 := at_next h
  rw [exs_next (env' := [some (.str T), some (.int n), none, none, none]) (σ' := σ) (by simp only [eg, len_at hT, Nat.not_le.mpr (at_lt h), idx_at h hT, notin_str, hin])]
  rw [exs_next (env' := [some (.str T), some (.int n), some (.int ((n + 1 : Nat) : Int)), none, none]) (σ' := σ) (by simp only [eg])]
  obtain ⟨x, X', rfl⟩ : ∃ x X', X = x :: X' := by cases X with | nil => simp at h1 | cons x r => exact ⟨_, _, rfl⟩
  have hx := hX x (.head _)
  have hx2 : ([43, 45] : List Nat).contains x = false := by simp; omega
  have e1 : ex (callP N (d + 1)) N (.iff (.bool true (.cons (.cmp .lt (.var 2) (.bi .len (.cons (.var 0) .nil))) (.cons (.cmp .isin (.idx (.var 0) (.var 2)) (.cst (.str [43, 45]))) .nil))) (.cons (.aug 2 .add (.cst (.int 1))) .nil) .nil) [some (.str T), some (.int n), some (.int ((n + 1 : Nat) : Int)), none, none] σ = .ok (.next, [some (.str T), some (.int n), some (.int ((n + 1 + (sgn b).length : Nat) : Int)), none, none], σ) := by
    cases b with
    | true =>
      have h' : T.drop (n + 1) = 45 :: ((x :: X') ++ R) := hn1
      have hm : ([43, 45] : List Nat).contains 45 = true := rfl
      simp only [eg, len_at hT, at_lt h', idx_at h' hT, in_str, hm]
      rfl
    | false =>
      have h' : T.drop (n + 1) = x :: (X' ++ R) := hn1
      simp only [eg, len_at hT, at_lt h', idx_at h' hT, in_str, hx2]
      rfl
  rw [exs_next e1]
  have hb : T.drop (n + 1 + (sgn b).length) = (x :: X') ++ R := at_skip hn1
  have hr := k_run (N := N) (d := d) (S := DIGS) (σ := σ) hT hN hσ hb (fun c hc => dg_in (hX c hc)) hR
  unfold DIGS at hr
  rw [exs_next (env' := [some (.str T), some (.int n), some (.int ((n + 1 + (sgn b).length : Nat) : Int)), some (.int ((n + 1 + (sgn b).length + (x :: X').length : Nat) : Int)), none]) (σ' := σ) (by simp only [eg, hr])]
  have hne : (((n + 1 + (sgn b).length + (x :: X').length : Nat) : Int) = ((n + 1 + (sgn b).length : Nat) : Int)) = False := by
    simp only [eq_iff_iff, iff_false, List.length_cons]; omega
  rw [exs_next (env' := [some (.str T), some (.int n), some (.int ((n + 1 + (sgn b).length : Nat) : Int)), some (.int ((n + 1 + (sgn b).length + (x :: X').length : Nat) : Int)), none]) (σ' := σ) (by simp only [eg, show ((n + 1 + (sgn b).length + (x :: X').length : Nat) = (n + 1 + (sgn b).length : Nat)) = False by simp only [eq_iff_iff, iff_false, List.length_cons]; omega])]
  have hgt : ((1000 : Int) < ((n + 1 + (sgn b).length + (x :: X').length : Nat) : Int) - ((n + 1 + (sgn b).length : Nat) : Int)) = False := by
    simp only [eq_iff_iff, iff_false]; omega
  rw [exs_next (env' := [some (.str T), some (.int n), some (.int ((n + 1 + (sgn b).length : Nat) : Int)), some (.int ((n + 1 + (sgn b).length + (x :: X').length : Nat) : Int)), none]) (σ' := σ) (by simp only [eg, hgt])]
  have hi : biP σ .int [.str (x :: X')] = some (.int (digitsVal (x :: X'))) := by
    simp only [biP, digitsOk_of hX h1 h2, if_true]
  rw [exs_next (env' := [some (.str T), some (.int n), some (.int ((n + 1 + (sgn b).length : Nat) : Int)), some (.int ((n + 1 + (sgn b).length + (x :: X').length : Nat) : Int)), some (.int (digitsVal (x :: X')))]) (σ' := σ) (by simp only [eg, cut_mid hb hT, hi])]
  have e2 : ex (callP N (d + 1)) N (.iff (.cmp .eq (.idx (.var 0) (.bin .add (.var 1) (.cst (.int 1)))) (.cst (.str [45]))) (.cons (.asg 4 (.neg (.var 4))) .nil) .nil) [some (.str T), some (.int n), some (.int ((n + 1 + (sgn b).length : Nat) : Int)), some (.int ((n + 1 + (sgn b).length + (x :: X').length : Nat) : Int)), some (.int (digitsVal (x :: X')))] σ = .ok (.next, [some (.str T), some (.int n), some (.int ((n + 1 + (sgn b).length : Nat) : Int)), some (.int ((n + 1 + (sgn b).length + (x :: X').length : Nat) : Int)), some (.int (if b then -(digitsVal (x :: X') : Int) else digitsVal (x :: X')))], σ) := by
    cases b with
    | true =>
      have h' : T.drop (n + 1) = 45 :: ((x :: X') ++ R) := hn1
      simp only [eg, idx_at h' hT]
    | false =>
      have h' : T.drop (n + 1) = x :: (X' ++ R) := hn1
      have hx3 : (([x] : List Nat) = [45]) = False := by simp only [eq_iff_iff, iff_false, List.cons.injEq, and_true]; omega
      simp only [eg, idx_at h' hT, hx3]
      rfl
  rw [exs_next e2]
  rw [exs_ret (v := .tup [.str [L], .int (if b then -(digitsVal (x :: X') : Int) else digitsVal (x :: X')), .int ((n + 1 + (sgn b).length + (x :: X').length : Nat) : Int)]) (env' := [some (.str T), some (.int n), some (.int ((n + 1 + (sgn b).length : Nat) : Int)), some (.int ((n + 1 + (sgn b).length + (x :: X').length : Nat) : Int)), some (.int (if b then -(digitsVal (x :: X') : Int) else digitsVal (x :: X')))]) (σ' := σ) (by simp only [eg, idx_at h hT])]
  exact leave_nl (v := .tup [.str [L], .int _, .int _]) rfl hσ
end
end Mine
namespace Mine
section
variable {N d : Nat} {T P R D F X : List Nat} {n c : Nat} {σ : Store}
theorem k_num_int (hT : T.length ≤ szL) (hN : T.length < N) (hσ : σ.all noLocs = true) (h : T.drop n = D ++ R) (hD : DG D) (h1 : 1 ≤ D.length) (h2 : D.length ≤ 640) (hR : NoHead DIGS R) (hE : NoHead [69, 68] R)
    (hdot : R = [] ∨ ∃ c r, R = c :: r ∧ (c ≠ 46 ∨ ∃ w, w ≠ [] ∧ callP N (d + 2) 1 [.str T, .int ((n + D.length : Nat) : Int)] σ = .ok (.str w, σ))) :
    callP N (d + 3) 4 [.str T, .int n] σ = .ok (.tup [.tup [.str [73, 78, 84], .int (digitsVal D), .int n], .int ((n + D.length : Nat) : Int)], σ) := by
  rw [callP_plain (f := c4) rfl, runFD_args (env := [some (.str T), some (.int n), none, none, none, none, none, none, none, none]) rfl rfl]
  unfold c4
  have hr := k_run (N := N) (d := d + 1) (S := DIGS) (σ := σ) hT hN hσ h (fun c hc => dg_in (hD c hc)) hR
  unfold DIGS at hr
  rw [exs_next (env' := [some (.str T), some (.int n), some (.int ((n + D.length : Nat) : Int)), none, none, none, none, none, none, none]) (σ' := σ) (by simp only [eg, hr])]
  rw [exs_next (env' := [some (.str T), some (.int n), some (.int ((n + D.length : Nat) : Int)), some (.str D), none, none, none, none, none, none]) (σ' := σ) (by simp only [eg, cut_mid h hT])]
  rw [exs_next (env' := [some (.str T), some (.int n), some (.int ((n + D.length : Nat) : Int)), some (.str D), some (.str []), none, none, none, none, none]) (σ' := σ) (by simp only [eg])]
  have hs := at_skip h
  rw [exs_next (env' := [some (.str T), some (.int n), some (.int ((n + D.length : Nat) : Int)), some (.str D), some (.str []), some (.bool false), none, none, none, none]) (σ' := σ) (by
    rcases hdot with q | ⟨c, r, q, q2⟩
    · rw [q] at hs
      simp only [eg, len_at hT, Nat.not_lt.mpr (at_nil hs)]
    · rw [q] at hs
      by_cases hc : c = 46
      · subst hc
        rcases q2 with q2 | ⟨w, hw, q2⟩
        · exact absurd rfl q2
        · simp only [eg, len_at hT, at_lt hs, idx_at hs hT, q2, hw]
      · have hc' : (([c] : List Nat) = [46]) = False := by simp [hc]
        simp only [eg, len_at hT, at_lt hs, idx_at hs hT, hc'])]
  rw [exs_next (env' := [some (.str T), some (.int n), some (.int ((n + D.length : Nat) : Int)), some (.str D), some (.str []), some (.bool false), none, none, none, none]) (σ' := σ) (by simp only [eg])]
  have hp := k_pow_no (N := N) (d := d + 1) (σ := σ) hT hσ hs hE
  rw [exs_next (env' := [some (.str T), some (.int n), some (.int ((n + D.length : Nat) : Int)), some (.str D), some (.str []), some (.bool false), none, some (.str []), some (.int 0), none]) (σ' := σ) (by simp only [eg, hp])]
  have hgt : ((1000 : Int) < ((n + D.length : Nat) : Int) - (n : Int)) = False := by simp only [eq_iff_iff, iff_false]; omega
  rw [exs_next (env' := [some (.str T), some (.int n), some (.int ((n + D.length : Nat) : Int)), some (.str D), some (.str []), some (.bool false), none, some (.str []), some (.int 0), none]) (σ' := σ) (by simp only [eg, hgt])]
  have hi : biP σ .int [.str D] = some (.int (digitsVal D)) := by
    simp only [biP, digitsOk_of hD h1 h2, if_true]
  rw [exs_ret (v := .tup [.tup [.str [73, 78, 84], .int (digitsVal D), .int n], .int ((n + D.length : Nat) : Int)]) (env' := [some (.str T), some (.int n), some (.int ((n + D.length : Nat) : Int)), some (.str D), some (.str []), some (.bool false), none, some (.str []), some (.int 0), none]) (σ' := σ) (by simp (decide := true) only [eg, hi])]
  exact leave_nl (v := .tup [.tup [.str [73, 78, 84], .int (digitsVal D), .int n], .int ((n + D.length : Nat) : Int)]) rfl hσ
def realKd (L : List Nat) : List Nat := if L = [68] then [68, 66, 76, 69] else [82, 69, 65, 76]
theorem k_num_pt {L : List Nat} {p : Int} {e : Nat} (hT : T.length ≤ szL) (hN : T.length < N) (hσ : σ.all noLocs = true) (h : T.drop n = D ++ 46 :: (F ++ R)) (hD : DG D) (hF : DG F) (h1 : 1 ≤ (D ++ F).length) (h2 : (D ++ F).length ≤ 640) (hR : NoHead DIGS R)
    (hdot : callP N (d + 2) 1 [.str T, .int ((n + D.length : Nat) : Int)] σ = .ok (.str [], σ))
    (hpow : callP N (d + 2) 3 [.str T, .int ((n + D.length + 1 + F.length : Nat) : Int)] σ = .ok (.tup [.str L, .int p, .int e], σ)) (he : e ≤ n + 1000)
    (hm : digitsVal (D ++ F) ≠ 0 → digitsVal (D ++ F) % 10 ≠ 0) :
    callP N (d + 3) 4 [.str T, .int n] σ = .ok (.tup [.tup [.str (realKd L), .tup [.int (digitsVal (D ++ F)), .int (if digitsVal (D ++ F) = 0 then 0 else p - F.length)], .int n], .int e], σ) := by
  rw [callP_plain (f := c4) rfl, runFD_args (env := [some (.str T), some (.int n), none, none, none, none, none, none, none, none]) rfl rfl]
  unfold c4
  have hpt : NoHead DIGS (46 :: (F ++ R)) := fun c r q => by cases q; rfl
  have hr := k_run (N := N) (d := d + 1) (S := DIGS) (σ := σ) hT hN hσ h (fun c hc => dg_in (hD c hc)) hpt
  unfold DIGS at hr
  rw [exs_next (env' := [some (.str T), some (.int n), some (.int ((n + D.length : Nat) : Int)), none, none, none, none, none, none, none]) (σ' := σ) (by simp only [eg, hr])]
  rw [exs_next (env' := [some (.str T), some (.int n), some (.int ((n + D.length : Nat) : Int)), some (.str D), none, none, none, none, none, none]) (σ' := σ) (by simp only [eg, cut_mid h hT])]
  rw [exs_next (env' := [some (.str T), some (.int n), some (.int ((n + D.length : Nat) : Int)), some (.str D), some (.str []), none, none, none, none, none]) (σ' := σ) (by simp only [eg])]
  have hs := at_skip h
  have hs1 := at_next hs
  rw [exs_next (env' := [some (.str T), some (.int n), some (.int ((n + D.length : Nat) : Int)), some (.str D), some (.str []), some (.bool true), none, none, none, none]) (σ' := σ) (by simp only [eg, len_at hT, at_lt hs, idx_at hs hT, hdot])]
  have hr2 := k_run (N := N) (d := d + 1) (S := DIGS) (σ := σ) hT hN hσ hs1 (fun c hc => dg_in (hF c hc)) hR
  unfold DIGS at hr2
  have hc2 := cut_mid hs1 hT
  rw [exs_next (env' := [some (.str T), some (.int n), some (.int ((n + D.length + 1 + F.length : Nat) : Int)), some (.str D), some (.str F), some (.bool true), some (.int ((n + D.length + 1 + F.length : Nat) : Int)), none, none, none]) (σ' := σ) (by simp only [eg, hr2, hc2])]
  rw [exs_next (env' := [some (.str T), some (.int n), some (.int e), some (.str D), some (.str F), some (.bool true), some (.int ((n + D.length + 1 + F.length : Nat) : Int)), some (.str L), some (.int p), none]) (σ' := σ) (by simp only [eg, hpow])]
  have hgt : ((1000 : Int) < (e : Int) - (n : Int)) = False := by simp only [eq_iff_iff, iff_false]; omega
  rw [exs_next (env' := [some (.str T), some (.int n), some (.int e), some (.str D), some (.str F), some (.bool true), some (.int ((n + D.length + 1 + F.length : Nat) : Int)), some (.str L), some (.int p), none]) (σ' := σ) (by simp only [eg, hgt])]
  rw [exs_next (env' := [some (.str T), some (.int n), some (.int e), some (.str D), some (.str F), some (.bool true), some (.int ((n + D.length + 1 + F.length : Nat) : Int)), some (.str L), some (.int p), none]) (σ' := σ) (by simp only [eg])]
  have hadd : binP .add (.str D) (.str F) = some (.str (D ++ F)) := by
    have : D.length + F.length ≤ szL := by
      rw [List.length_append] at h2
      have : (640 : Nat) ≤ szL := by decide
      omega
    simp only [binP, this, if_true]
  have hlF : biP σ .len [.str F] = some (.int F.length) := len_at (by
      rw [List.length_append] at h2
      have : (640 : Nat) ≤ szL := by decide
      omega)
  have ht := k_told (N := N) (d := d + 1) (p := p - F.length) hσ (by omega) (hD.app hF) h1 h2 hm
  generalize hpv : PV.tup [.int (digitsVal (D ++ F)), .int (if digitsVal (D ++ F) = 0 then 0 else p - F.length)] = pr at *
  have hnl : noLoc pr = true := by rw [← hpv]; rfl
  rw [exs_next (env' := [some (.str T), some (.int n), some (.int e), some (.str D), some (.str F), some (.bool true), some (.int ((n + D.length + 1 + F.length : Nat) : Int)), some (.str L), some (.int p), some pr]) (σ' := σ) (by simp only [eg, hadd, hlF, ht])]
  unfold realKd
  by_cases hL : L = [68]
  · rw [if_pos hL]
    rw [exs_ret (v := .tup [.tup [.str [68, 66, 76, 69], pr, .int n], .int e]) (env' := [some (.str T), some (.int n), some (.int e), some (.str D), some (.str F), some (.bool true), some (.int ((n + D.length + 1 + F.length : Nat) : Int)), some (.str L), some (.int p), some pr]) (σ' := σ) (by simp only [eg, hL])]
    exact leave_nl (v := .tup [.tup [.str [68, 66, 76, 69], pr, .int n], .int e]) (by simp [noLoc, noLocs, hnl]) hσ
  · rw [if_neg hL]
    rw [exs_next (env' := [some (.str T), some (.int n), some (.int e), some (.str D), some (.str F), some (.bool true), some (.int ((n + D.length + 1 + F.length : Nat) : Int)), some (.str L), some (.int p), some pr]) (σ' := σ) (by simp only [eg, hL])]
    rw [exs_ret (v := .tup [.tup [.str [82, 69, 65, 76], pr, .int n], .int e]) (env' := [some (.str T), some (.int n), some (.int e), some (.str D), some (.str F), some (.bool true), some (.int ((n + D.length + 1 + F.length : Nat) : Int)), some (.str L), some (.int p), some pr]) (σ' := σ) (by simp only [eg])]
    exact leave_nl (v := .tup [.tup [.str [82, 69, 65, 76], pr, .int n], .int e]) (by simp [noLoc, noLocs, hnl]) hσ
end
end Mine
namespace Mine
section
variable {N d : Nat} {T P R D F X : List Nat} {n c : Nat} {σ : Store}
theorem ci2 (a : Nat) : (a : Int) + 2 = ((a + 2 : Nat) : Int) := rfl
theorem cut_one (h : T.drop n = R) (hn : n ≤ T.length) (hT : T.length ≤ szL) : cutP (.str T) (.int n) (.int ((n + 1 : Nat) : Int)) = some (.str (R.take 1)) := by
  cases R with
  | nil => exact cut_end h (Nat.zero_le _) hn hT
  | cons c r => exact cut_mid (A := [c]) h hT
theorem add_str {a b : List Nat} (h : a.length + b.length ≤ szL) : binP .add (.str a) (.str b) = some (.str (a ++ b)) := by
  simp only [binP, h, if_true]
def bodyQ : PSs := (.cons (.iff (.cmp .ne (.idx (.var 0) (.var 3)) (.cst (.str [39]))) (.cons (.aug 2 .add (.idx (.var 0) (.var 3))) (.cons (.aug 3 .add (.cst (.int 1))) .nil)) (.cons (.iff (.cmp .eq (.cut (.var 0) (.bin .add (.var 3) (.cst (.int 1))) (.bin .add (.var 3) (.cst (.int 2)))) (.cst (.str [39]))) (.cons (.aug 2 .add (.cst (.str [39]))) (.cons (.aug 3 .add (.cst (.int 2))) .nil)) (.cons (.ret (.tup (.cons (.tup (.cons (.cst (.str [67, 72, 65, 82])) (.cons (.var 2) (.cons (.var 1) .nil)))) (.cons (.bin .add (.var 3) (.cst (.int 1))) .nil)))) .nil)) .nil)) .nil)
theorem while_q {n : Nat} (hT : T.length ≤ szL) (hR : NoHead [39] R) : ∀ (s acc : List Nat) (h k : Nat), T.drop h = dbl39 s ++ 39 :: R → acc.length ≤ h → s.length < k →
    ∃ env, whileN (ev (callP N d) (.cmp .lt (.var 3) (.bi .len (.cons (.var 0) .nil)))).2 (exs (callP N d) N bodyQ) k [some (.str T), some (.int n), some (.str acc), some (.int h)] σ = .ok (.ret (.tup [.tup [.str [67, 72, 65, 82], .str (acc ++ s), .int n], .int ((h + (dbl39 s).length + 1 : Nat) : Int)]), env, σ)
  | [], acc, h, k, hd, ha, hk => by
    obtain ⟨k, rfl⟩ : ∃ j, k = j + 1 := ⟨k - 1, by omega⟩
    have hd : T.drop h = 39 :: R := hd
    have hlt := at_lt hd
    have h1 := cut_one (at_next hd) hlt hT
    have h2 : (R.take 1 = [39]) = False := by
      cases R with
      | nil => simp
      | cons c r =>
        have := hR c r rfl
        simp only [eq_iff_iff, iff_false, List.take_succ_cons, List.take_zero, List.cons.injEq, and_true]
        rintro rfl
        cases this
    refine ⟨[some (.str T), some (.int n), some (.str acc), some (.int h)], while_ret (σ' := σ) (by simp only [eg, len_at hT, hlt]) ?_⟩
    unfold bodyQ
    simp only [eg, idx_at hd hT, ci2, h1, h2, show (h + 2 : Nat) = h + 1 + 1 from rfl, List.append_nil]
    rfl
  | c :: s, acc, h, k, hd, ha, hk => by
    obtain ⟨k, rfl⟩ : ∃ j, k = j + 1 := ⟨k - 1, by omega⟩
    by_cases hc : c = 39
    · subst hc
      have e : dbl39 (39 :: s) = 39 :: 39 :: dbl39 s := by rw [dbl39, if_pos rfl]
      rw [e] at hd ⊢
      have hd : T.drop h = 39 :: 39 :: (dbl39 s ++ 39 :: R) := hd
      have hlt := at_lt hd
      have h1 := cut_one (at_next hd) hlt hT
      obtain ⟨env, ih⟩ := while_q hT hR s (acc ++ [39]) (h + 2) k (at_next (at_next hd)) (by simp; omega) (by simp at hk; omega)
      refine ⟨env, ?_⟩
      have ha2 : acc.length + ([39] : List Nat).length ≤ szL := by simp; omega
      rw [while_step (env' := [some (.str T), some (.int n), some (.str (acc ++ [39])), some (.int ((h + 2 : Nat) : Int))]) (σ' := σ) (σ'' := σ) (by simp only [eg, len_at hT, hlt]) (by
        unfold bodyQ
        simp only [eg, idx_at hd hT, ci2, h1, show (h + 2 : Nat) = h + 1 + 1 from rfl, List.take_succ_cons, List.take_zero, add_str ha2]), ih]
      simp only [List.length_cons, List.append_assoc, List.cons_append, List.nil_append, show h + 2 + (dbl39 s).length + 1 = h + ((dbl39 s).length + 1 + 1) + 1 by omega]
    · have e : dbl39 (c :: s) = c :: dbl39 s := by rw [dbl39, if_neg hc]
      rw [e] at hd ⊢
      have hd : T.drop h = c :: (dbl39 s ++ 39 :: R) := hd
      have hlt := at_lt hd
      obtain ⟨env, ih⟩ := while_q hT hR s (acc ++ [c]) (h + 1) k (at_next hd) (by simp; omega) (by simp at hk; omega)
      refine ⟨env, ?_⟩
      have ha2 : acc.length + ([c] : List Nat).length ≤ szL := by simp; omega
      have hc2 : (([c] : List Nat) = [39]) = False := by simp [hc]
      rw [while_step (env' := [some (.str T), some (.int n), some (.str (acc ++ [c])), some (.int ((h + 1 : Nat) : Int))]) (σ' := σ) (σ'' := σ) (by simp only [eg, len_at hT, hlt]) (by
        unfold bodyQ
        simp only [eg, idx_at hd hT, hc2, add_str ha2]), ih]
      simp only [List.length_cons, List.append_assoc, List.cons_append, List.nil_append, show h + 1 + (dbl39 s).length + 1 = h + ((dbl39 s).length + 1) + 1 by omega]
theorem dbl39_ge (s : List Nat) : s.length ≤ (dbl39 s).length := by
  induction s with
  | nil => exact Nat.le_refl _
  | cons c r ih => rw [dbl39]; split <;> simp <;> omega
theorem k_quoted {s : List Nat} (hT : T.length ≤ szL) (hN : T.length < N) (hσ : σ.all noLocs = true) (h : T.drop n = 39 :: (dbl39 s ++ 39 :: R)) (hR : NoHead [39] R) :
    callP N (d + 1) 5 [.str T, .int n] σ = .ok (.tup [.tup [.str [67, 72, 65, 82], .str s, .int n], .int ((n + 1 + (dbl39 s).length + 1 : Nat) : Int)], σ) := by
  rw [callP_plain (f := c5) rfl, runFD_args (env := [some (.str T), some (.int n), none, none]) rfl rfl]
  unfold c5
  rw [exs_next (env' := [some (.str T), some (.int n), some (.str []), none]) (σ' := σ) (by simp only [eg])]
  rw [exs_next (env' := [some (.str T), some (.int n), some (.str []), some (.int ((n + 1 : Nat) : Int))]) (σ' := σ) (by simp only [eg])]
  have hl := congrArg List.length h
  simp only [List.length_drop, List.length_cons, List.length_append] at hl
  have := dbl39_ge s
  obtain ⟨env, hw⟩ := while_q (N := N) (d := d) (σ := σ) (n := n) hT hR s [] (n + 1) N (at_next h) (Nat.zero_le _) (by omega)
  rw [exs_ret (by rw [ex_whl]; exact hw)]
  exact leave_nl (v := .tup [.tup [.str [67, 72, 65, 82], .str s, .int n], .int ((n + 1 + (dbl39 s).length + 1 : Nat) : Int)]) rfl hσ
theorem k_nameL (hT : T.length ≤ szL) (hN : T.length < N) (hσ : σ.all noLocs = true) (h : T.drop n = P ++ R) (hP : ∀ c ∈ P, (LETS ++ DIGS).contains c = true) (hR : NoHead (LETS ++ DIGS) R) (h6 : P.length ≤ 6) :
    callP N (d + 2) 6 [.str T, .int n] σ = .ok (.tup [.tup [.str [78, 65, 77, 69], .str P, .int n], .int ((n + P.length : Nat) : Int)], σ) := by
  rw [callP_plain (f := c6) rfl, runFD_args (env := [some (.str T), some (.int n), none]) rfl rfl]
  unfold c6
  have hr := k_run (N := N) (d := d) (S := LETS ++ DIGS) (σ := σ) hT hN hσ h hP hR
  have ha : binP .add (.str [65, 66, 67, 68, 69, 70, 71, 72, 73, 74, 75, 76, 77, 78, 79, 80, 81, 82, 83, 84, 85, 86, 87, 88, 89, 90]) (.str [48, 49, 50, 51, 52, 53, 54, 55, 56, 57]) = some (.str (LETS ++ DIGS)) := add_str (by decide)
  rw [exs_next (env' := [some (.str T), some (.int n), some (.int ((n + P.length : Nat) : Int))]) (σ' := σ) (by simp only [eg, ha, hr])]
  have hgt : ((6 : Int) < ((n + P.length : Nat) : Int) - (n : Int)) = False := by simp only [eq_iff_iff, iff_false]; omega
  rw [exs_next (env' := [some (.str T), some (.int n), some (.int ((n + P.length : Nat) : Int))]) (σ' := σ) (by simp only [eg, hgt])]
  rw [exs_ret (v := .tup [.tup [.str [78, 65, 77, 69], .str P, .int n], .int ((n + P.length : Nat) : Int)]) (env' := [some (.str T), some (.int n), some (.int ((n + P.length : Nat) : Int))]) (σ' := σ) (by simp only [eg, cut_mid h hT])]
  exact leave_nl (v := .tup [.tup [.str [78, 65, 77, 69], .str P, .int n], .int ((n + P.length : Nat) : Int)]) rfl hσ
theorem k_point_num {v : PV} (hT : T.length ≤ szL) (hσ : σ.all noLocs = true) (h : T.drop n = 46 :: c :: R) (hc : 48 ≤ c ∧ c ≤ 57) (hv : noLoc v = true) (hk : callP N d 4 [.str T, .int n] σ = .ok (v, σ)) :
    callP N (d + 1) 7 [.str T, .int n] σ = .ok (v, σ) := by
  rw [callP_plain (f := c7) rfl, runFD_args (env := [some (.str T), some (.int n), none]) rfl rfl]
  unfold c7
  have h1 := at_next h
  have hin := dg_in hc
  unfold DIGS at hin
  rw [exs_ret (v := v) (env' := [some (.str T), some (.int n), none]) (σ' := σ) (by simp only [eg, len_at hT, at_lt h1, idx_at h1 hT, in_str, hin, hk])]
  exact leave_nl hv hσ
theorem dot_shape : ∀ w ∈ dotL ++ truL, w = 46 :: (w.tail.dropLast ++ [46]) ∧ (w.tail.dropLast.all fun c => LETS.contains c) = true ∧ 4 ≤ w.length ∧ ((w.tail.take 1).all fun c => !DIGS.contains c) = true := by decide
theorem dotOf_short {w : List Nat} (h : w.length ≤ 3) : dotOf w = [] := by
  unfold dotOf
  rw [if_neg]
  intro q
  have := (dot_shape w (List.mem_append.mpr q)).2.2.1
  omega
/-- a dotted word stands here -/
theorem k_word {w : List Nat} (hT : T.length ≤ szL) (hN : T.length < N) (hσ : σ.all noLocs = true) (h : T.drop n = w ++ R) (hw : w ∈ dotL ++ truL) : callP N (d + 2) 1 [.str T, .int n] σ = .ok (.str w, σ) := by
  obtain ⟨h1, h2, _, _⟩ := dot_shape w hw
  generalize w.tail.dropLast = P at h1 h2
  have hd : T.drop n = 46 :: (P ++ (46 :: R)) := by rw [h, h1]; simp
  rw [k_dot hT hN hσ hd (fun x hx => by simpa using List.all_eq_true.mp h2 x hx) (fun c r q => by cases q; rfl)]
  rw [show (46 :: (P ++ (46 :: R).take 1)) = w from h1.symm]
  unfold dotOf
  rw [if_pos (List.mem_append.mp hw)]
theorem eq_tru (w : List Nat) : cmpP .eq (.str w) (.str [46, 84, 82, 85, 69, 46]) = some (decide (w = [46, 84, 82, 85, 69, 46])) := rfl
theorem k_point_word {w : List Nat} (hT : T.length ≤ szL) (hN : T.length < N) (hσ : σ.all noLocs = true) (h : T.drop n = w ++ R) (hw : w ∈ dotL ++ truL) :
    callP N (d + 3) 7 [.str T, .int n] σ = .ok (.tup [.tup [.str (if w ∈ truL then [76, 79, 71] else [79, 80]), if w ∈ truL then .bool (decide (w = [46, 84, 82, 85, 69, 46])) else .str w, .int n], .int ((n + w.length : Nat) : Int)], σ) := by
  rw [callP_plain (f := c7) rfl, runFD_args (env := [some (.str T), some (.int n), none]) rfl rfl]
  unfold c7
  have hk := k_word (N := N) (d := d) (σ := σ) hT hN hσ h hw
  obtain ⟨h1, _, h3, h4⟩ := dot_shape w hw
  obtain ⟨a, b, r, rfl⟩ : ∃ a b r, w = a :: b :: r := by
    match w, h3 with
    | a :: b :: r, _ => exact ⟨a, b, r, rfl⟩
  have hb : DIGS.contains b = false := by simpa using h4
  unfold DIGS at hb
  have hn : T.drop (n + 1) = b :: (r ++ R) := at_next h
  rw [exs_next (env' := [some (.str T), some (.int n), none]) (σ' := σ) (by simp only [eg, len_at hT, at_lt hn, idx_at hn hT, in_str, hb])]
  rw [exs_next (env' := [some (.str T), some (.int n), some (.str (a :: b :: r))]) (σ' := σ) (by simp only [eg, hk])]
  rw [exs_next (env' := [some (.str T), some (.int n), some (.str (a :: b :: r))]) (σ' := σ) (by simp only [eg, reduceCtorEq])]
  have hl : biP σ .len [.str (a :: b :: r)] = some (.int (a :: b :: r).length) := len_at (by
    have := congrArg List.length h
    simp only [List.length_drop, List.length_append] at this; omega)
  generalize a :: b :: r = w at *
  by_cases hq : w ∈ truL
  · rw [if_pos hq, if_pos hq]
    rw [exs_ret (v := .tup [.tup [.str [76, 79, 71], .bool (decide (w = [46, 84, 82, 85, 69, 46])), .int n], .int ((n + w.length : Nat) : Int)]) (env' := [some (.str T), some (.int n), some (.str w)]) (σ' := σ) (by simp only [eg, isin_tru, hq, hl, Int.natCast_add])]
    exact leave_nl (v := .tup [.tup [.str [76, 79, 71], .bool (decide (w = [46, 84, 82, 85, 69, 46])), .int n], .int ((n + w.length : Nat) : Int)]) rfl hσ
  · rw [if_neg hq, if_neg hq]
    rw [exs_next (env' := [some (.str T), some (.int n), some (.str w)]) (σ' := σ) (by simp only [eg, isin_tru, hq])]
    rw [exs_ret (v := .tup [.tup [.str [79, 80], .str w, .int n], .int ((n + w.length : Nat) : Int)]) (env' := [some (.str T), some (.int n), some (.str w)]) (σ' := σ) (by simp only [eg, hl, Int.natCast_add])]
    exact leave_nl (v := .tup [.tup [.str [79, 80], .str w, .int n], .int ((n + w.length : Nat) : Int)]) rfl hσ
end
end Mine
namespace Mine
def SIGS : List Nat := [43, 45, 42, 47, 40, 41, 44, 61, 58]
section
variable {N d : Nat} {T P R D F X : List Nat} {n c : Nat} {σ : Store} {v : PV}
theorem k8_let (hT : T.length ≤ szL) (hσ : σ.all noLocs = true) (h : T.drop n = c :: R) (hc : LETS.contains c = true) (hv : noLoc v = true) (hk : callP N d 6 [.str T, .int n] σ = .ok (v, σ)) :
    callP N (d + 1) 8 [.str T, .int n] σ = .ok (v, σ) := by
  rw [callP_plain (f := c8) rfl, runFD_args (env := [some (.str T), some (.int n), none, none]) rfl rfl]
  unfold c8
  unfold LETS at hc
  rw [exs_next (env' := [some (.str T), some (.int n), some (.str [c]), none]) (σ' := σ) (by simp only [eg, idx_at h hT])]
  rw [exs_ret (v := v) (env' := [some (.str T), some (.int n), some (.str [c]), none]) (σ' := σ) (by simp only [eg, in_str, hc, hk])]
  exact leave_nl hv hσ
theorem k8_dig (hT : T.length ≤ szL) (hσ : σ.all noLocs = true) (h : T.drop n = c :: R) (hc : 48 ≤ c ∧ c ≤ 57) (hv : noLoc v = true) (hk : callP N d 4 [.str T, .int n] σ = .ok (v, σ)) :
    callP N (d + 1) 8 [.str T, .int n] σ = .ok (v, σ) := by
  rw [callP_plain (f := c8) rfl, runFD_args (env := [some (.str T), some (.int n), none, none]) rfl rfl]
  unfold c8
  have h1 : LETS.contains c = false := by simp [LETS]; omega
  have h2 := dg_in hc
  unfold LETS at h1
  unfold DIGS at h2
  rw [exs_next (env' := [some (.str T), some (.int n), some (.str [c]), none]) (σ' := σ) (by simp only [eg, idx_at h hT])]
  rw [exs_next (env' := [some (.str T), some (.int n), some (.str [c]), none]) (σ' := σ) (by simp only [eg, in_str, h1])]
  rw [exs_ret (v := v) (env' := [some (.str T), some (.int n), some (.str [c]), none]) (σ' := σ) (by simp only [eg, in_str, h2, hk])]
  exact leave_nl hv hσ
theorem k8_dot (hT : T.length ≤ szL) (hσ : σ.all noLocs = true) (h : T.drop n = 46 :: R) (hv : noLoc v = true) (hk : callP N d 7 [.str T, .int n] σ = .ok (v, σ)) :
    callP N (d + 1) 8 [.str T, .int n] σ = .ok (v, σ) := by
  rw [callP_plain (f := c8) rfl, runFD_args (env := [some (.str T), some (.int n), none, none]) rfl rfl]
  unfold c8
  have h1 : LETS.contains 46 = false := rfl
  have h2 : DIGS.contains 46 = false := rfl
  unfold LETS at h1
  unfold DIGS at h2
  rw [exs_next (env' := [some (.str T), some (.int n), some (.str [46]), none]) (σ' := σ) (by simp only [eg, idx_at h hT])]
  rw [exs_next (env' := [some (.str T), some (.int n), some (.str [46]), none]) (σ' := σ) (by simp only [eg, in_str, h1])]
  rw [exs_next (env' := [some (.str T), some (.int n), some (.str [46]), none]) (σ' := σ) (by simp only [eg, in_str, h2])]
  rw [exs_ret (v := v) (env' := [some (.str T), some (.int n), some (.str [46]), none]) (σ' := σ) (by simp only [eg, hk])]
  exact leave_nl hv hσ
theorem k8_q (hT : T.length ≤ szL) (hσ : σ.all noLocs = true) (h : T.drop n = 39 :: R) (hv : noLoc v = true) (hk : callP N d 5 [.str T, .int n] σ = .ok (v, σ)) :
    callP N (d + 1) 8 [.str T, .int n] σ = .ok (v, σ) := by
  rw [callP_plain (f := c8) rfl, runFD_args (env := [some (.str T), some (.int n), none, none]) rfl rfl]
  unfold c8
  have h1 : LETS.contains 39 = false := rfl
  have h2 : DIGS.contains 39 = false := rfl
  unfold LETS at h1
  unfold DIGS at h2
  rw [exs_next (env' := [some (.str T), some (.int n), some (.str [39]), none]) (σ' := σ) (by simp only [eg, idx_at h hT])]
  rw [exs_next (env' := [some (.str T), some (.int n), some (.str [39]), none]) (σ' := σ) (by simp only [eg, in_str, h1])]
  rw [exs_next (env' := [some (.str T), some (.int n), some (.str [39]), none]) (σ' := σ) (by simp only [eg, in_str, h2])]
  rw [exs_next (env' := [some (.str T), some (.int n), some (.str [39]), none]) (σ' := σ) (by simp (decide := true) only [eg])]
  rw [exs_ret (v := v) (env' := [some (.str T), some (.int n), some (.str [39]), none]) (σ' := σ) (by simp only [eg, hk])]
  exact leave_nl hv hσ
/-- the way to the signs -/
theorem k8_sig (hT : T.length ≤ szL) (h : T.drop n = c :: R) (hc : c ∈ ([43, 45, 42, 47, 40, 41, 44, 58] : List Nat)) (hσ : σ.all noLocs = true) (k : Nat) (two : Bool) (hk : k = if two then n + 1 + 1 else n + 1)
    (h2 : ([42, 47] : List Nat).contains c = true ∨ two = false) (h3 : ([42, 47] : List Nat).contains c = true → (decide (R.take 1 = [c])) = two) {A B : List Nat} (hA : T.drop n = A ++ B) (hAk : n + A.length = k) :
    callP N (d + 1) 8 [.str T, .int n] σ = .ok (.tup [.tup [.str [79, 80], .str A, .int n], .int k], σ) := by
  rw [callP_plain (f := c8) rfl, runFD_args (env := [some (.str T), some (.int n), none, none]) rfl rfl]
  unfold c8
  have q : LETS.contains c = false ∧ DIGS.contains c = false ∧ (([c] : List Nat) = [46]) = False ∧ (([c] : List Nat) = [39]) = False ∧ SIGS.contains c = true := by
    simp only [List.mem_cons, List.not_mem_nil, or_false] at hc
    rcases hc with rfl | rfl | rfl | rfl | rfl | rfl | rfl | rfl <;> decide
  obtain ⟨q1, q2, q3, q4, q5⟩ := q
  unfold LETS at q1
  unfold DIGS at q2
  unfold SIGS at q5
  rw [exs_next (env' := [some (.str T), some (.int n), some (.str [c]), none]) (σ' := σ) (by simp only [eg, idx_at h hT])]
  rw [exs_next (env' := [some (.str T), some (.int n), some (.str [c]), none]) (σ' := σ) (by simp only [eg, in_str, q1])]
  rw [exs_next (env' := [some (.str T), some (.int n), some (.str [c]), none]) (σ' := σ) (by simp only [eg, in_str, q2])]
  rw [exs_next (env' := [some (.str T), some (.int n), some (.str [c]), none]) (σ' := σ) (by simp only [eg, q3])]
  rw [exs_next (env' := [some (.str T), some (.int n), some (.str [c]), none]) (σ' := σ) (by simp only [eg, q4])]
  rw [exs_next (env' := [some (.str T), some (.int n), some (.str [c]), none]) (σ' := σ) (by simp only [eg, notin_str, q5])]
  rw [exs_next (env' := [some (.str T), some (.int n), some (.str [c]), some (.int ((n + 1 : Nat) : Int))]) (σ' := σ) (by simp only [eg])]
  have hcut := cut_one (at_next h) (at_lt h) hT
  rw [exs_next (env' := [some (.str T), some (.int n), some (.str [c]), some (.int k)]) (σ' := σ) (by
    cases q6 : ([42, 47] : List Nat).contains c with
    | false =>
      have : two = false := by rcases h2 with h2 | h2; (rw [q6] at h2; cases h2); exact h2
      subst this
      subst hk
      simp only [eg, in_str, q6]
      rfl
    | true =>
      have h3 := h3 q6
      cases two with
      | false =>
        subst hk
        simp only [eg, in_str, q6, hcut, h3]
        rfl
      | true =>
        subst hk
        simp only [eg, in_str, q6, hcut, h3])]
  have hc2 := cut_mid hA hT
  rw [hAk] at hc2
  rw [exs_ret (v := .tup [.tup [.str [79, 80], .str A, .int n], .int k]) (env' := [some (.str T), some (.int n), some (.str [c]), some (.int k)]) (σ' := σ) (by simp only [eg, hc2])]
  exact leave_nl (v := .tup [.tup [.str [79, 80], .str A, .int n], .int k]) rfl hσ
end
def sigOps : List (List Nat) := [[43], [45], [42], [47], [42, 42], [47, 47], [40], [41], [44], [58]]
def TokOk : Tok → Prop
  | .op s => s ∈ sigOps ∨ s ∈ dotL
  | .int v => v < 10 ^ 12
  | .real m e => PairOk m e
  | .dble m e => PairOk m e
  | .log _ => True
  | .chr s => s ∈ textL
  | .nam s => s ∈ nameL
def FolV (R : List Nat) : Prop := R = [] ∨ (∃ c r, R = c :: r ∧ c ∈ ([43, 45, 42, 47, 41, 44, 58, 40] : List Nat)) ∨ (∃ w r, R = w ++ r ∧ w ∈ dotL)
def Fol : Tok → List Nat → Prop
  | .op s, R => (s = [42] → NoHead [42] R) ∧ (s = [47] → NoHead [47] R)
  | _, R => FolV R
theorem dot_head : ∀ w ∈ dotL, w = 46 :: w.tail := by decide
theorem FolV.no {R S : List Nat} (h : FolV R) (hS : (([43, 45, 42, 47, 41, 44, 58, 40, 46] : List Nat).all fun c => !S.contains c) = true) : NoHead S R := by
  intro c r e
  have hS : ∀ x ∈ ([43, 45, 42, 47, 41, 44, 58, 40, 46] : List Nat), S.contains x = false := fun x hx => by simpa using List.all_eq_true.mp hS x hx
  rcases h with h | ⟨c', r', h, hc⟩ | ⟨w, r', h, hw⟩
  · rw [h] at e; cases e
  · rw [h] at e; cases e
    exact hS _ (by simp only [List.mem_cons, List.not_mem_nil, or_false] at hc ⊢; omega)
  · rw [h, dot_head w hw] at e; cases e
    exact hS 46 (by decide)
section
variable {N d : Nat} {T R : List Nat} {n : Nat} {σ : Store}
theorem k_num_nat (hT : T.length ≤ szL) (hN : T.length < N) (hσ : σ.all noLocs = true) {v : Nat} (hv : v < 10 ^ 12) (h : T.drop n = dg v ++ R) (hR : FolV R) :
    callP N (d + 3) 4 [.str T, .int n] σ = .ok (.tup [.tup [.str [73, 78, 84], .int v, .int n], .int ((n + (dg v).length : Nat) : Int)], σ) := by
  have hl := dg_len v 11 (by simpa using hv)
  have hdot : R = [] ∨ ∃ c r, R = c :: r ∧ (c ≠ 46 ∨ ∃ w, w ≠ [] ∧ callP N (d + 2) 1 [.str T, .int ((n + (dg v).length : Nat) : Int)] σ = .ok (.str w, σ)) := by
    rcases hR with q | ⟨c, r, q, hc⟩ | ⟨w, r, q, hw⟩
    · exact .inl q
    · refine .inr ⟨c, r, q, .inl ?_⟩
      rintro rfl
      revert hc; decide
    · refine .inr ⟨46, w.tail ++ r, ?_, .inr ⟨w, ?_, k_word (R := r) hT hN hσ ?_ (List.mem_append_left _ hw)⟩⟩
      · rw [q]; conv => lhs; rw [dot_head w hw]
        rfl
      · rw [dot_head w hw]; nofun
      · rw [at_skip h, q]
  have := k_num_int (N := N) (d := d) hT hN hσ h (dg_dig v) (dg_pos v) (by omega) (hR.no (by decide)) (hR.no (by decide)) hdot
  rw [dg_val] at this
  exact this
theorem intText_sgn (e : Int) : intText e = sgn (decide (e < 0)) ++ dg e.natAbs ∧ (if decide (e < 0) then -(digitsVal (dg e.natAbs) : Int) else digitsVal (dg e.natAbs)) = e := by
  rw [dg_val]
  by_cases h : e < 0
  · rw [decide_eq_true h]
    obtain ⟨k, rfl⟩ : ∃ k : Nat, e = -((k + 1 : Nat) : Int) := ⟨e.natAbs - 1, by omega⟩
    rw [intText_neg]
    refine ⟨?_, ?_⟩
    · rw [Int.natAbs_neg, Int.natAbs_natCast]; rfl
    · simp only [if_true]; omega
  · rw [decide_eq_false h]
    obtain ⟨k, rfl⟩ : ∃ k : Nat, e = (k : Int) := ⟨e.natAbs, by omega⟩
    rw [intText_nat]
    refine ⟨?_, ?_⟩
    · rw [Int.natAbs_natCast]; rfl
    · simp only [Bool.false_eq_true, if_false]; omega
theorem no_let_dg {X R : List Nat} (hX : DG X) (h1 : 1 ≤ X.length) : NoHead LETS (X ++ R) := by
  intro c r e
  cases X with
  | nil => simp at h1
  | cons x X =>
    cases e
    have := hX c (.head _)
    simp [LETS]; omega
theorem k_real_text {m : Nat} {e : Int} {c : Nat} (hT : T.length ≤ szL) (hN : T.length < N) (hσ : σ.all noLocs = true) (hc : c = 69 ∨ c = 68) (hp : PairOk m e) (h : T.drop n = showPair m e c ++ R) (hR : FolV R) :
    callP N (d + 3) 4 [.str T, .int n] σ = .ok (.tup [.tup [.str (realKd [c]), .tup [.int m, .int e], .int n], .int ((n + (showPair m e c).length : Nat) : Int)], σ) ∧
    ((∃ x r, T.drop n = x :: r ∧ 48 ≤ x ∧ x ≤ 57) ∨ (∃ x r, T.drop n = 46 :: x :: r ∧ 48 ≤ x ∧ x ≤ 57)) := by
  obtain ⟨p1, p2, p3, p4, p5⟩ := hp
  have hdl : (dg m).length ≤ 4 := dg_len m 3 (by omega)
  have hd1 := dg_pos m
  have hdd : DG (dg m) := dg_dig m
  have hh : ∀ (A B : List Nat), DG A → 1 ≤ A.length → ∃ x r, A ++ B = x :: r ∧ 48 ≤ x ∧ x ≤ 57 := by
    intro A B hA hl
    cases A with
    | nil => simp at hl
    | cons a A => exact ⟨a, A ++ B, rfl, hA a (.head _)⟩
  unfold showPair at h ⊢
  rw [intText_nat] at h ⊢
  by_cases hA : c = 68 ∨ 0 < e ∨ e < -12
  · rw [if_pos hA] at h ⊢
    obtain ⟨t1, t2⟩ := intText_sgn e
    have hXl : (dg e.natAbs).length ≤ 2 := dg_len _ 1 (by omega)
    have h' : T.drop n = dg m ++ 46 :: (([] : List Nat) ++ (c :: (sgn (decide (e < 0)) ++ (dg e.natAbs ++ R)))) := by
      rw [h, t1]; simp
    have hs1 : T.drop (n + (dg m).length) = 46 :: ([c] ++ (sgn (decide (e < 0)) ++ (dg e.natAbs ++ R))) := by rw [at_skip h']; rfl
    have hnl : NoHead LETS (sgn (decide (e < 0)) ++ (dg e.natAbs ++ R)) := by
      cases decide (e < 0) with
      | true => intro x r q; cases q; rfl
      | false => exact no_let_dg (X := dg e.natAbs) (R := R) (dg_dig _) (dg_pos _)
    have hdot := k_dot (N := N) (d := d) (σ := σ) hT hN hσ hs1 (by intro x hx; rw [List.mem_singleton.mp hx]; rcases hc with rfl | rfl <;> rfl) hnl
    rw [dotOf_short (by simp; omega)] at hdot
    have hs2 := at_next hs1
    have hpow := k_pow (N := N) (d := d) (σ := σ) (b := decide (e < 0)) (L := c) hT hN hσ (n := n + (dg m).length + 1) hs2 hc (dg_dig _) (dg_pos _) (by omega) (hR.no (by decide))
    rw [t2] at hpow
    have hsl : (sgn (decide (e < 0))).length ≤ 1 := by cases decide (e < 0) <;> decide
    have := k_num_pt (N := N) (d := d) (σ := σ) (F := []) hT hN hσ h' hdd (fun x hx => nomatch hx) (by simpa using hd1) (by simp; omega) (by intro x r q; cases q; rcases hc with rfl | rfl <;> rfl) hdot hpow (by omega) (by rw [List.append_nil, dg_val]; exact p5)
    rw [List.append_nil, dg_val] at this
    have e1 : (if m = 0 then (0 : Int) else e - (([] : List Nat).length : Nat)) = e := by
      split
      · rename_i q; exact (p4 q).symm
      · simp
    rw [e1] at this
    refine ⟨?_, .inl (by rw [h']; exact hh _ _ hdd hd1)⟩
    rw [this, t1]
    congr 6
    simp only [List.length_append, List.length_cons, List.length_nil]
    omega
  · rw [if_neg hA] at h ⊢
    have hc69 : c = 69 := by rcases hc with q | q; exact q; exact absurd (Or.inl q) hA
    have hk : realKd [c] = realKd [] := by rw [hc69]; rfl
    rw [hk]
    by_cases hB : e = 0
    · rw [if_pos hB] at h ⊢
      have h' : T.drop n = dg m ++ 46 :: (([] : List Nat) ++ R) := by rw [h]; simp
      have hs1 : T.drop (n + (dg m).length) = 46 :: (([] : List Nat) ++ R) := at_skip h'
      have hdot := k_dot (N := N) (d := d) (σ := σ) hT hN hσ hs1 (fun x hx => nomatch hx) (hR.no (by decide))
      rw [dotOf_short (by simp; omega)] at hdot
      have hs2 := at_next hs1
      have hpow := k_pow_no (N := N) (d := d + 1) (σ := σ) hT (n := n + (dg m).length + 1) hσ hs2 (hR.no (by decide))
      have := k_num_pt (N := N) (d := d) (σ := σ) (F := []) hT hN hσ h' hdd (fun x hx => nomatch hx) (by simpa using hd1) (by simp; omega) (hR.no (by decide)) hdot hpow (by omega) (by rw [List.append_nil, dg_val]; exact p5)
      rw [List.append_nil, dg_val] at this
      refine ⟨?_, .inl (by rw [h']; exact hh _ _ hdd hd1)⟩
      have e1 : (if m = 0 then (0 : Int) else 0 - (([] : List Nat).length : Nat)) = 0 := by split <;> simp
      rw [e1] at this
      rw [this, hB]
      congr 6
      simp only [List.length_append, List.length_cons, List.length_nil]
      omega
    · rw [if_neg hB] at h ⊢
      have hm0 : m ≠ 0 := fun q => hB (p4 q)
      have hneg : e < 0 := by omega
      by_cases hC : (dg m).length ≤ (-e).toNat
      · rw [if_pos hC] at h ⊢
        generalize hF : zerosL ((-e).toNat - (dg m).length) ++ dg m = F at *
        have hFd : DG F := by rw [← hF]; exact (DG.zeros _).app hdd
        have hFl : F.length = (-e).toNat := by rw [← hF]; simp [zerosL]; omega
        have hFv : digitsVal F = m := by rw [← hF, digitsVal_zeros, dg_val]
        have h' : T.drop n = [] ++ 46 :: (F ++ R) := by rw [h, ← hF]; simp
        have hs1 : T.drop (n + ([] : List Nat).length) = 46 :: (([] : List Nat) ++ (F ++ R)) := h'
        have hdot := k_dot (N := N) (d := d) (σ := σ) hT hN hσ hs1 (fun x hx => nomatch hx) (no_let_dg hFd (by omega))
        rw [dotOf_short (by simp; omega)] at hdot
        have hs2 := at_next hs1
        have hs3 : T.drop (n + ([] : List Nat).length + 1 + F.length) = R := at_skip hs2
        have hpow := k_pow_no (N := N) (d := d + 1) (σ := σ) hT hσ hs3 (hR.no (by decide))
        have := k_num_pt (N := N) (d := d) (σ := σ) (D := []) hT hN hσ h' (fun x hx => nomatch hx) hFd (by simp; omega) (by simp; omega) (hR.no (by decide)) hdot hpow (by simp; omega) (by rw [List.nil_append, hFv]; exact p5)
        rw [List.nil_append, hFv, if_neg hm0] at this
        refine ⟨?_, .inr ?_⟩
        · rw [this]
          have e1 : (0 : Int) - (F.length : Nat) = e := by omega
          rw [e1, List.append_assoc, hF]
          congr 6
          simp only [List.length_append, List.length_cons, List.length_nil]
          omega
        · obtain ⟨x, r, q1, q2⟩ := hh F R hFd (by omega)
          exact ⟨x, r, by rw [h', q1]; rfl, q2⟩
      · rw [if_neg hC] at h ⊢
        generalize hk2 : (dg m).length - (-e).toNat = k at *
        have hDF : (dg m).take k ++ (dg m).drop k = dg m := List.take_append_drop _ _
        have hDl : ((dg m).take k).length = k := by rw [List.length_take]; omega
        have hFl : ((dg m).drop k).length = (-e).toNat := by rw [List.length_drop]; omega
        have hDd := hdd.take k
        have hFd := hdd.drop k
        generalize (dg m).take k = D at *
        generalize (dg m).drop k = F at *
        have h' : T.drop n = D ++ 46 :: (F ++ R) := by rw [h]; simp
        have hs1 : T.drop (n + D.length) = 46 :: (([] : List Nat) ++ (F ++ R)) := at_skip h'
        have hdot := k_dot (N := N) (d := d) (σ := σ) hT hN hσ hs1 (fun x hx => nomatch hx) (no_let_dg hFd (by omega))
        rw [dotOf_short (by simp; omega)] at hdot
        have hs2 := at_next hs1
        have hs3 : T.drop (n + D.length + 1 + F.length) = R := at_skip hs2
        have hpow := k_pow_no (N := N) (d := d + 1) (σ := σ) hT hσ hs3 (hR.no (by decide))
        have := k_num_pt (N := N) (d := d) (σ := σ) hT hN hσ h' hDd hFd (by rw [hDF]; omega) (by rw [hDF]; omega) (hR.no (by decide)) hdot hpow (by omega) (by rw [hDF, dg_val]; exact p5)
        rw [hDF, dg_val, if_neg hm0] at this
        refine ⟨?_, .inl (by rw [h']; exact hh _ _ hDd (by omega))⟩
        rw [this]
        have e1 : (0 : Int) - (F.length : Nat) = e := by omega
        rw [e1]
        congr 6
        simp only [List.length_append, List.length_cons, List.length_nil]
        omega
end
end Mine
namespace Mine
theorem name_shape : ∀ s ∈ nameL, (s.all fun c => (LETS ++ DIGS).contains c) = true ∧ s.length ≤ 6 ∧ (s.take 1).length = 1 ∧ ((s.take 1).all fun c => LETS.contains c) = true := by decide
theorem dot_not_tru : ∀ w ∈ dotL, ¬ w ∈ truL := by decide
theorem showPair_pos {m : Nat} {e : Int} {c : Nat} : 1 ≤ (showPair m e c).length := by
  unfold showPair
  split
  · simp; omega
  · split
    · simp
    · split <;> simp <;> omega
theorem tx_pos {x : Tok} (h : TokOk x) : 1 ≤ x.tx.length := by
  match x, h with
  | .op s, h =>
    have : ∀ s ∈ sigOps ++ dotL, 1 ≤ s.length := by decide
    exact this s (List.mem_append.mpr h)
  | .int v, h => show 1 ≤ (intText v).length; rw [intText_nat]; exact dg_pos v
  | .real _ _, _ => exact showPair_pos
  | .dble _ _, _ => exact showPair_pos
  | .log b, _ => cases b <;> decide
  | .chr s, _ => simp [Tok.tx]
  | .nam s, h =>
    have : ∀ s ∈ nameL, 1 ≤ s.length := by decide
    exact this s h
theorem noTake {R : List Nat} {c : Nat} (h : NoHead [c] R) : decide (R.take 1 = [c]) = false := by
  cases R with
  | nil => rfl
  | cons x r =>
    have := h x r rfl
    rw [decide_eq_false_iff_not]
    intro e
    cases e
    simp at this
section
variable {N d : Nat} {T R : List Nat} {n : Nat} {σ : Store}
theorem k_sig1 {c : Nat} (hT : T.length ≤ szL) (hσ : σ.all noLocs = true) (hc : c ∈ ([43, 45, 42, 47, 40, 41, 44, 58] : List Nat)) (h : T.drop n = [c] ++ R) (hR : ([42, 47] : List Nat).contains c = true → NoHead [c] R) :
    callP N (d + 1) 8 [.str T, .int n] σ = .ok (.tup [.tup [.str [79, 80], .str [c], .int n], .int ((n + 1 : Nat) : Int)], σ) :=
  k8_sig hT h hc hσ (n + 1) false rfl (.inr rfl) (fun q => noTake (hR q)) h rfl
theorem k_sig2 {c : Nat} (hT : T.length ≤ szL) (hσ : σ.all noLocs = true) (hc : c = 42 ∨ c = 47) (h : T.drop n = [c, c] ++ R) :
    callP N (d + 1) 8 [.str T, .int n] σ = .ok (.tup [.tup [.str [79, 80], .str [c, c], .int n], .int ((n + 1 + 1 : Nat) : Int)], σ) :=
  k8_sig (R := c :: R) hT h (by rcases hc with rfl | rfl <;> decide) hσ (n + 1 + 1) true rfl (.inl (by rcases hc with rfl | rfl <;> rfl)) (fun q => by simp) h rfl
theorem k_tok {x : Tok} (hT : T.length ≤ szL) (hN : T.length < N) (hσ : σ.all noLocs = true) (ok : TokOk x) (hF : Fol x R) (h : T.drop n = x.tx ++ R) :
    callP N (d + 5) 8 [.str T, .int n] σ = .ok (.tup [tkPV (x, n), .int ((n + x.tx.length : Nat) : Int)], σ) := by
  match x, ok, hF, h with
  | .op s, ok, hF, h =>
    have hF : (s = [42] → NoHead [42] R) ∧ (s = [47] → NoHead [47] R) := hF
    rcases ok with hs | hs
    · simp only [sigOps, List.mem_cons, List.not_mem_nil, or_false] at hs
      rcases hs with rfl | rfl | rfl | rfl | rfl | rfl | rfl | rfl | rfl | rfl
      · exact k_sig1 hT hσ (by decide) h (fun q => absurd q (by decide))
      · exact k_sig1 hT hσ (by decide) h (fun q => absurd q (by decide))
      · exact k_sig1 hT hσ (by decide) h (fun _ => hF.1 rfl)
      · exact k_sig1 hT hσ (by decide) h (fun _ => hF.2 rfl)
      · exact k_sig2 hT hσ (.inl rfl) h
      · exact k_sig2 hT hσ (.inr rfl) h
      · exact k_sig1 hT hσ (by decide) h (fun q => absurd q (by decide))
      · exact k_sig1 hT hσ (by decide) h (fun q => absurd q (by decide))
      · exact k_sig1 hT hσ (by decide) h (fun q => absurd q (by decide))
      · exact k_sig1 hT hσ (by decide) h (fun q => absurd q (by decide))
    · have hk := k_point_word (N := N) (d := d + 1) (σ := σ) (w := s) hT hN hσ h (List.mem_append_left _ hs)
      have hn := dot_not_tru s hs
      rw [if_neg hn, if_neg hn] at hk
      refine k8_dot (R := s.tail ++ R) hT hσ ?_ rfl hk
      rw [h]
      show s ++ R = _
      conv => lhs; rw [dot_head s hs]
      rfl
  | .int v, ok, hF, h =>
    have h' : T.drop n = dg v ++ R := by rw [h]; show intText v ++ R = _; rw [intText_nat]
    have hk := k_num_nat (N := N) (d := d + 1) (σ := σ) hT hN hσ ok h' hF
    have e : (Tok.int v).tx = dg v := intText_nat v
    rw [e]
    obtain ⟨x, r, q⟩ : ∃ x r, dg v = x :: r := by
      have := dg_pos v
      cases q : dg v with
      | nil => rw [q] at this; simp at this
      | cons x r => exact ⟨x, r, rfl⟩
    exact k8_dig (R := r ++ R) hT hσ (by rw [h', q]; rfl) (dg_dig v x (by rw [q]; exact .head _)) rfl hk
  | .real m e, ok, hF, h =>
    obtain ⟨hk, hh⟩ := k_real_text (N := N) (d := d) (σ := σ) hT hN hσ (.inl rfl) ok h hF
    obtain ⟨hk1, _⟩ := k_real_text (N := N) (d := d + 1) (σ := σ) hT hN hσ (.inl rfl) ok h hF
    rcases hh with ⟨x, r, q1, q2⟩ | ⟨x, r, q1, q2⟩
    · exact k8_dig hT hσ q1 q2 rfl hk1
    · exact k8_dot hT hσ q1 rfl (k_point_num hT hσ q1 q2 rfl hk)
  | .dble m e, ok, hF, h =>
    obtain ⟨hk, hh⟩ := k_real_text (N := N) (d := d) (σ := σ) hT hN hσ (.inr rfl) ok h hF
    obtain ⟨hk1, _⟩ := k_real_text (N := N) (d := d + 1) (σ := σ) hT hN hσ (.inr rfl) ok h hF
    rcases hh with ⟨x, r, q1, q2⟩ | ⟨x, r, q1, q2⟩
    · exact k8_dig hT hσ q1 q2 rfl hk1
    · exact k8_dot hT hσ q1 rfl (k_point_num hT hσ q1 q2 rfl hk)
  | .log b, ok, hF, h =>
    cases b with
    | true =>
      have hk := k_point_word (N := N) (d := d + 1) (σ := σ) (w := [46, 84, 82, 85, 69, 46]) hT hN hσ h (by decide)
      have h' : T.drop n = 46 :: ([84, 82, 85, 69, 46] ++ R) := by rw [h]; rfl
      exact k8_dot hT hσ h' rfl hk
    | false =>
      have hk := k_point_word (N := N) (d := d + 1) (σ := σ) (w := [46, 70, 65, 76, 83, 69, 46]) hT hN hσ h (by decide)
      have h' : T.drop n = 46 :: ([70, 65, 76, 83, 69, 46] ++ R) := by rw [h]; rfl
      exact k8_dot hT hσ h' rfl hk
  | .chr s, ok, hF, h =>
    have hF : FolV R := hF
    have h' : T.drop n = 39 :: (dbl39 s ++ 39 :: R) := by rw [h]; simp [Tok.tx]
    have hk := k_quoted (N := N) (d := d + 3) (σ := σ) hT hN hσ h' (hF.no (by decide))
    have e : n + (Tok.chr s).tx.length = n + 1 + (dbl39 s).length + 1 := by simp [Tok.tx]; omega
    rw [e]
    exact k8_q hT hσ h' rfl hk
  | .nam s, ok, hF, h =>
    have hF : FolV R := hF
    obtain ⟨q1, q2, q3, q4⟩ := name_shape s ok
    have hk := k_nameL (N := N) (d := d + 2) (σ := σ) hT hN hσ h (fun c hc => by simpa using List.all_eq_true.mp q1 c hc) (hF.no (by decide)) q2
    obtain ⟨x, r, rfl⟩ : ∃ x r, s = x :: r := by
      cases s with
      | nil => simp at q3
      | cons x r => exact ⟨x, r, rfl⟩
    exact k8_let (R := r ++ R) hT hσ h (by simpa using q4) rfl hk
end
/-- pieces that may stand one behind the other -/
def Lexb : List Lx → Prop
  | [] => True
  | x :: r => TokOk x.tok ∧ Fol x.tok (txs r) ∧ Lexb r
theorem lexb_len : ∀ {xs : List Lx}, Lexb xs → xs.length ≤ (txs xs).length
  | [], _ => Nat.le_refl _
  | x :: r, h => by
    have := lexb_len h.2.2
    have h1 : 1 ≤ x.tx.length := tx_pos h.1
    simp only [txs, List.length_cons, List.length_append]; omega
theorem leave_loc {l : List PV} (hl : noLocs l = true) : leaveP ([] : Store).length (.ret (.loc 0)) [l] = .ok (.list l, []) := by
  have e : freeze 0 [l] (.loc 0) = some (.list l) := by
    unfold freeze
    rw [if_pos (Nat.le_refl _)]
    simp only [List.getElem?_cons_zero, hl, if_true]
  simp only [leaveP, flP, List.length_nil, e]
  rfl
def bodyTk : PSs := (.cons (.asgT [3, 2] (.call 8 (.cons (.var 0) (.cons (.var 2) .nil)))) (.cons (.exp (.me .append (.var 1) (.cons (.var 3) .nil))) .nil))
theorem while_tk {N d : Nat} {T : List Nat} (hT : T.length ≤ szL) (hN : T.length < N) : ∀ (xs : List Lx) (acc : List PV) (n k : Nat) (v3 : Option PV), Lexb xs → T.drop n = txs xs → xs.length < k → noLocs acc = true → acc.length + xs.length ≤ szL →
    ∃ n' v3', whileN (ev (callP N (d + 5)) (.cmp .lt (.var 2) (.bi .len (.cons (.var 0) .nil)))).2 (exs (callP N (d + 5)) N bodyTk) k [some (.str T), some (.loc 0), some (.int n), v3] [acc] = .ok (.next, [some (.str T), some (.loc 0), some n', v3'], [acc ++ (posd n xs).map tkPV])
  | [], acc, n, k, v3, _, hd, hk, ha, hl => by
    obtain ⟨k, rfl⟩ : ∃ j, k = j + 1 := ⟨k - 1, by omega⟩
    have := at_nil (T := T) (n := n) hd
    refine ⟨.int n, v3, ?_⟩
    rw [while_stop (σ' := [acc]) (by simp only [eg, len_at hT, Nat.not_lt.mpr this])]
    simp [posd]
  | x :: r, acc, n, k, v3, hx, hd, hk, ha, hl => by
    obtain ⟨k, rfl⟩ : ∃ j, k = j + 1 := ⟨k - 1, by omega⟩
    obtain ⟨h1, h2, h3⟩ := hx
    have hd' : T.drop n = x.tok.tx ++ txs r := hd
    have hpos := tx_pos h1
    have hlt : n < T.length := by
      have := congrArg List.length hd'
      simp only [List.length_drop, List.length_append] at this; omega
    have hσ : ([acc] : Store).all noLocs = true := by simp [ha]
    have hk8 := k_tok (N := N) (d := d) (σ := [acc]) hT hN hσ h1 h2 hd'
    have hac : acc.length < szL := by simp only [List.length_cons] at hl; omega
    have hg : ([acc] : Store)[0]? = some acc := rfl
    have hs : ([acc] : Store).set 0 (acc ++ [tkPV (x.tok, n)]) = [acc ++ [tkPV (x.tok, n)]] := rfl
    obtain ⟨n', v3', ih⟩ := while_tk hT hN r (acc ++ [tkPV (x.tok, n)]) (n + x.tok.tx.length) k (some (tkPV (x.tok, n))) h3 (at_skip hd') (by simp at hk; omega) (by rw [noLocs_app, ha]; simp [noLocs, tk_nl]) (by simp only [List.length_cons, List.length_append, List.length_nil] at hl ⊢; omega)
    refine ⟨n', v3', ?_⟩
    rw [while_step (env' := [some (.str T), some (.loc 0), some (.int ((n + x.tok.tx.length : Nat) : Int)), some (tkPV (x.tok, n))]) (σ' := [acc]) (σ'' := [acc ++ [tkPV (x.tok, n)]]) (by simp only [eg, len_at hT, hlt]) (by
      unfold bodyTk
      simp only [eg, hk8, recvP, meP, hg, hac, hs]), ih]
    simp only [posd, List.map_cons, List.append_assoc, List.cons_append, List.nil_append, Lx.tx]
/-- the text of the pieces gives the pieces -/
theorem k_lex {N d : Nat} {xs : List Lx} (hx : Lexb xs) (hT : (txs xs).length < szL) (hN : (txs xs).length < N) : callP N (d + 6) 9 [.str (txs xs)] [] = .ok (tkL (posd 0 xs), []) := by
  rw [callP_plain (f := c9) rfl, runFD_args (env := [some (.str (txs xs)), none, none, none]) rfl rfl]
  unfold c9
  have hl := lexb_len hx
  rw [exs_next (env' := [some (.str (txs xs)), some (.loc 0), none, none]) (σ' := [[]]) (by simp only [eg]; rfl)]
  rw [exs_next (env' := [some (.str (txs xs)), some (.loc 0), some (.int 0), none]) (σ' := [[]]) (by simp only [eg])]
  obtain ⟨n', v3', hw⟩ := while_tk (N := N) (d := d) (T := txs xs) (by omega) hN xs [] 0 N none hx rfl (by omega) rfl (by simp; omega)
  have hw : whileN (ev (callP N (d + 5)) (.cmp .lt (.var 2) (.bi .len (.cons (.var 0) .nil)))).2 (exs (callP N (d + 5)) N bodyTk) N [some (.str (txs xs)), some (.loc 0), some (.int 0), none] [[]] = _ := hw
  unfold bodyTk at hw
  rw [exs_next (by rw [ex_whl]; exact hw)]
  rw [exs_ret (v := .loc 0) (env' := [some (.str (txs xs)), some (.loc 0), some n', v3']) (σ' := [[] ++ (posd 0 xs).map tkPV]) (by simp only [eg])]
  rw [List.nil_append]
  exact leave_loc (tks_nl _)
end Mine
namespace Mine
/-! which piece may follow which -/
def isV : Lx → Bool
  | .lpA => false
  | .t (.op _) => false
  | .t _ => true
def noStar (b : Lx) : Prop := ∀ s, b.tok = .op s → s.head? ≠ some 42 ∧ s.head? ≠ some 47
structure Adj (a b : Lx) : Prop where
  v : isV a = true → isV b = false
  rp : a = .o tRP → isV b = false
  st : a = .o [42] ∨ a = .o [47] ∨ a = .o tLP → noStar b
  nr : a = .o [42] ∨ a = .o [47] ∨ a = .o tLP → b ≠ .o tRP
  la : b = .lpA → (∃ s, a = .t (.nam s)) ∨ a = .o tRP
  lo : b = .o tLP → isV a = false
structure Adj' (a b : Lx) : Prop where
  v : isV a = true → isV b = false
  st : a = .o [42] ∨ a = .o [47] → noStar b
def ChF (R : Lx → Lx → Prop) : Lx → List Lx → Prop
  | _, [] => True
  | p, x :: r => R p x ∧ ChF R x r
def lastL : Lx → List Lx → Lx
  | p, [] => p
  | _, x :: r => lastL x r
theorem chF_app {R : Lx → Lx → Prop} : ∀ (a b : List Lx) (p : Lx), ChF R p (a ++ b) ↔ ChF R p a ∧ ChF R (lastL p a) b
  | [], b, p => by simp [ChF, lastL]
  | x :: a, b, p => by
    rw [List.cons_append, ChF, ChF, lastL, chF_app a b x, and_assoc]
theorem lastL_app : ∀ (a b : List Lx) (p : Lx), lastL p (a ++ b) = lastL (lastL p a) b
  | [], b, p => rfl
  | x :: a, b, p => by rw [List.cons_append, lastL, lastL, lastL_app a b x]
theorem chF_imp {R S : Lx → Lx → Prop} (h : ∀ a b, R a b → S a b) : ∀ (l : List Lx) (p : Lx), ChF R p l → ChF S p l
  | [], _, _ => trivial
  | x :: r, p, q => ⟨h _ _ q.1, chF_imp h r x q.2⟩
def opn (p : Lx) : Prop := isV p = false ∧ p ≠ .o tRP
def fin' (x : Lx) : Prop := isV x = true ∨ x = .o tRP
def beg (b : Lx) : Prop := noStar b ∧ b ≠ .o tRP ∧ b ≠ .lpA
theorem adj_beg {p b : Lx} (h : opn p) (hb : beg b) : Adj p b where
  v q := by rw [h.1] at q; cases q
  rp q := absurd q h.2
  st _ := hb.1
  nr _ := hb.2.1
  la q := absurd q hb.2.2
  lo _ := h.1
theorem adj_fin {p b : Lx} (h : fin' p) (hv : isV b = false) (hl : b ≠ .o tLP) (hla : b = .lpA → (∃ s, p = .t (.nam s)) ∨ p = .o tRP) : Adj p b where
  v _ := hv
  rp _ := hv
  st q := by
    exfalso
    rcases h with h | h
    · rcases q with q | q | q <;> rw [q] at h <;> cases h
    · subst h; rcases q with q | q | q <;> cases q
  nr q := by
    exfalso
    rcases h with h | h
    · rcases q with q | q | q <;> rw [q] at h <;> cases h
    · subst h; rcases q with q | q | q <;> cases q
  la := hla
  lo q := absurd q hl
theorem beg_v {x : Lx} (h : isV x = true) : beg x := by
  refine ⟨fun s q => ?_, ?_, ?_⟩
  · match x, h with
    | .t (.int _), _ | .t (.real _ _), _ | .t (.dble _ _), _ | .t (.log _), _ | .t (.chr _), _ | .t (.nam _), _ => cases q
  · rintro rfl; cases h
  · rintro rfl; cases h
theorem beg_op {s : List Nat} (h1 : s.head? ≠ some 42 ∧ s.head? ≠ some 47) (h2 : s ≠ tRP) : beg (.o s) :=
  ⟨fun s' q => by cases q; exact h1, fun q => by cases q; exact h2 rfl, nofun⟩
theorem opn_op {s : List Nat} (h : s ≠ tRP) : opn (.o s) := ⟨rfl, fun q => by cases q; exact h rfl⟩
theorem opn_la : opn .lpA := ⟨rfl, nofun⟩
/-- an operand's pieces -/
def PX (l : List Lx) : Prop := ∀ p, opn p → ChF Adj p l ∧ fin' (lastL p l)
theorem px_val {x : Lx} (h : isV x = true) : PX [x] := fun p hp => ⟨⟨adj_beg hp (beg_v h), trivial⟩, .inl h⟩
theorem px_wrap {l : List Lx} (h : PX l) (b : Bool) : PX (wrap b l) := by
  cases b with
  | false => exact h
  | true =>
    intro p hp
    obtain ⟨h1, h2⟩ := h (.o tLP) (opn_op (by decide))
    show ChF Adj p (.o tLP :: (l ++ [.o tRP])) ∧ fin' (lastL p (.o tLP :: (l ++ [.o tRP])))
    rw [ChF, lastL, chF_app, lastL_app]
    exact ⟨⟨adj_beg hp (beg_op (by decide) (by decide)), h1, adj_fin h2 rfl (by simp) nofun, trivial⟩, .inr rfl⟩
theorem px_bin {l m : List Lx} {s : List Nat} (h : PX l) (g : PX m) (h1 : s ≠ tRP) (h2 : s ≠ tLP) : PX (l ++ .o s :: m) := by
  intro p hp
  obtain ⟨a1, a2⟩ := h p hp
  obtain ⟨b1, b2⟩ := g (.o s) (opn_op h1)
  rw [chF_app, lastL_app, ChF, lastL]
  exact ⟨⟨a1, adj_fin a2 rfl (fun q => by cases q; exact h2 rfl) nofun, b1⟩, b2⟩
theorem px_un {m : List Lx} {s : List Nat} (g : PX m) (h1 : s ≠ tRP) (hs : s.head? ≠ some 42 ∧ s.head? ≠ some 47) : PX (.o s :: m) := by
  intro p hp
  obtain ⟨b1, b2⟩ := g (.o s) (opn_op h1)
  rw [ChF, lastL]
  exact ⟨⟨adj_beg hp (beg_op hs h1), b1⟩, b2⟩
theorem px_num (a : Num) : PX a.lx := by
  cases a with
  | int i =>
    simp only [Num.lx]
    split
    · exact px_un (px_val rfl) (by decide) (by decide)
    · exact px_val rfl
  | real m e =>
    simp only [Num.lx]
    split
    · exact px_un (px_val rfl) (by decide) (by decide)
    · exact px_val rfl
theorem px_br {l : List Lx} (h : ∀ p, opn p → ChF Adj p l ∧ fin' (lastL p l)) {p : Lx} (hp : opn p) : ChF Adj p (.o tLP :: (l ++ [.o tRP])) ∧ fin' (lastL p (.o tLP :: (l ++ [.o tRP]))) := px_wrap h true p hp
theorem ops_ne : ∀ s ∈ opsL, s ≠ tRP ∧ s ≠ tLP := by decide
theorem adj_cl {p : Lx} (h : fin' p ∨ p = .lpA) : Adj p (.o tCL) := by
  rcases h with h | rfl
  · exact adj_fin h rfl (by simp) nofun
  · exact { v := nofun, rp := nofun, st := fun _ s q => (by cases q; decide), nr := fun _ => by simp, la := nofun, lo := fun _ => rfl }
theorem adj_rp {p : Lx} (h : fin' p ∨ p = .lpA ∨ p = .o tCL) : Adj p (.o tRP) := by
  rcases h with h | rfl | rfl
  · exact adj_fin h rfl (by simp) nofun
  · exact { v := nofun, rp := nofun, st := fun _ s q => (by cases q; decide), nr := fun q => by (rcases q with q | q | q <;> cases q), la := nofun, lo := fun _ => rfl }
  · exact { v := nofun, rp := fun _ => rfl, st := fun q => by (rcases q with q | q | q <;> cases q), nr := fun q => by (rcases q with q | q | q <;> cases q), la := nofun, lo := fun _ => rfl }
mutual
theorem px : ∀ t : Tr, Ok t → PX (lx t)
  | .bin op l r, h => by
    unfold Ok at h
    rw [lx]
    exact px_bin (px_wrap (px l h.2.1) _) (px_wrap (px r h.2.2) _) (ops_ne op h.1).1 (ops_ne op h.1).2
  | .un op a, h => by
    unfold Ok at h
    rw [lx]
    exact px_un (px_wrap (px a h.2) _) (by rcases h.1 with rfl | rfl | rfl <;> decide) (by rcases h.1 with rfl | rfl | rfl <;> decide)
  | .nam s, _ => px_val rfl
  | .ref s as, h => by
    unfold Ok at h
    intro p hp
    rw [lx, ChF, ChF, lastL, lastL, chF_app, lastL_app]
    have hl : Adj (.t (.nam s)) .lpA := adj_fin (.inl rfl) rfl nofun fun _ => .inl ⟨s, rfl⟩
    obtain ⟨h1, h2⟩ := px_row as h.2
    exact ⟨⟨adj_beg hp (beg_v rfl), hl, h1, adj_rp (h2.imp id .inl), trivial⟩, .inr rfl⟩
  | .sub b lo hi, h => by
    unfold Ok at h
    intro p hp
    obtain ⟨b1, b2⟩ := px b h.2.1 p hp
    have b3 : (∃ s, lastL p (lx b) = .t (.nam s)) ∨ lastL p (lx b) = .o tRP := by
      match b, h.1 with
      | .nam s, _ => exact .inl ⟨s, rfl⟩
      | .ref s as, _ =>
        rw [lx, lastL, lastL, lastL_app]
        exact .inr rfl
    obtain ⟨c1, c2⟩ := px_o lo h.2.2.1 .lpA opn_la
    obtain ⟨d1, d2⟩ := px_o hi h.2.2.2 (.o tCL) (opn_op (by decide))
    rw [lx, chF_app, lastL_app, ChF, lastL, chF_app, lastL_app, ChF, lastL, chF_app, lastL_app]
    exact ⟨⟨b1, adj_fin b2 rfl nofun fun _ => b3, c1, adj_cl c2, d1, adj_rp (d2.imp id .inr), trivial⟩, .inr rfl⟩
  | .int _, _ => px_val rfl
  | .real _ _, _ => px_val rfl
  | .dble _ _, _ => px_val rfl
  | .log _, _ => px_val rfl
  | .chr _, _ => px_val rfl
  | .cplx a b, _ => by
    have := px_wrap (px_bin (s := tCM) (px_num a) (px_num b) (by decide) (by decide)) true
    have e : lx (.cplx a b) = wrap true (a.lx ++ .o tCM :: b.lx) := by
      rw [lx]; show _ = .o tLP :: ((a.lx ++ .o tCM :: b.lx) ++ [.o tRP]); simp
    rw [e]
    exact this
theorem px_o : ∀ o : TrO, OkO o → ∀ p, opn p → ChF Adj p (lxO o) ∧ (fin' (lastL p (lxO o)) ∨ lastL p (lxO o) = p)
  | .none, _, p, _ => ⟨trivial, .inr rfl⟩
  | .some t, h, p, hp => by
    unfold OkO at h
    rw [lxO]
    obtain ⟨h1, h2⟩ := px t h p hp
    exact ⟨h1, .inl h2⟩
theorem px_row : ∀ as : Trs, Oks as → ChF Adj .lpA (row as) ∧ (fin' (lastL .lpA (row as)) ∨ lastL .lpA (row as) = .lpA)
  | .nil, _ => ⟨trivial, .inr rfl⟩
  | .cons t r, h => by
    unfold Oks at h
    obtain ⟨h1, h2⟩ := px t h.1 .lpA opn_la
    obtain ⟨h3, h4⟩ := px_rowT r h.2 (lastL .lpA (lx t)) h2
    rw [row, chF_app, lastL_app]
    exact ⟨⟨h1, h3⟩, .inl h4⟩
theorem px_rowT : ∀ as : Trs, Oks as → ∀ p, fin' p → ChF Adj p (rowT as) ∧ fin' (lastL p (rowT as))
  | .nil, _, p, hp => ⟨trivial, hp⟩
  | .cons t r, h, p, hp => by
    unfold Oks at h
    obtain ⟨h1, h2⟩ := px t h.1 (.o tCM) (opn_op (by decide))
    obtain ⟨h3, h4⟩ := px_rowT r h.2 (lastL (.o tCM) (lx t)) h2
    rw [rowT, ChF, lastL, chF_app, lastL_app]
    exact ⟨⟨adj_fin hp rfl (by simp) nofun, h1, h3⟩, h4⟩
end
/-! each piece is well made -/
def AllOk (l : List Lx) : Prop := ∀ x ∈ l, TokOk x.tok
theorem AllOk.app {a b : List Lx} (h : AllOk a) (g : AllOk b) : AllOk (a ++ b) := fun x hx => (List.mem_append.mp hx).elim (h x) (g x)
theorem AllOk.cons {x : Lx} {b : List Lx} (h : TokOk x.tok) (g : AllOk b) : AllOk (x :: b) := fun y hy => (List.mem_cons.mp hy).elim (fun q => q ▸ h) (g y)
theorem AllOk.nil : AllOk [] := fun x hx => nomatch hx
theorem AllOk.one {x : Lx} (h : TokOk x.tok) : AllOk [x] := AllOk.cons h AllOk.nil
theorem ok_sig {s : List Nat} (h : s ∈ sigOps) : TokOk (Lx.o s).tok := .inl h
theorem ok_ops : ∀ s ∈ opsL, s ∈ sigOps ∨ s ∈ dotL := by decide
theorem ok_wrap {l : List Lx} (h : AllOk l) (b : Bool) : AllOk (wrap b l) := by
  cases b with
  | false => exact h
  | true => exact AllOk.cons (x := .o tLP) (ok_sig (by decide)) (h.app (AllOk.one (ok_sig (by decide))))
theorem ok_num {a : Num} (h : NumOk a) : AllOk a.lx := by
  cases a with
  | int i =>
    have h : i.natAbs < 30 := h
    have h' : TokOk (Lx.t (.int i.natAbs)).tok := (by show i.natAbs < 10 ^ 12; omega)
    simp only [Num.lx]
    split
    · exact AllOk.cons (ok_sig (by decide)) (AllOk.one h')
    · exact AllOk.one h'
  | real m e =>
    have h' : TokOk (Lx.t (.real m.natAbs e)).tok := h
    simp only [Num.lx]
    split
    · exact AllOk.cons (ok_sig (by decide)) (AllOk.one h')
    · exact AllOk.one h'
mutual
theorem ok_lx : ∀ t : Tr, Ok t → AllOk (lx t)
  | .bin op l r, h => by
    unfold Ok at h
    rw [lx]
    exact (ok_wrap (ok_lx l h.2.1) _).app (AllOk.cons (ok_ops op h.1) (ok_wrap (ok_lx r h.2.2) _))
  | .un op a, h => by
    unfold Ok at h
    rw [lx]
    exact AllOk.cons (by rcases h.1 with rfl | rfl | rfl; exact .inr (by decide); exact .inl (by decide); exact .inl (by decide)) (ok_wrap (ok_lx a h.2) _)
  | .nam s, h => AllOk.one h
  | .ref s as, h => by
    unfold Ok at h
    rw [lx]
    exact AllOk.cons h.1 (AllOk.cons (x := .lpA) (.inl (by decide)) ((ok_row as h.2).app (AllOk.one (ok_sig (by decide)))))
  | .sub b lo hi, h => by
    unfold Ok at h
    rw [lx]
    exact (ok_lx b h.2.1).app (AllOk.cons (x := .lpA) (.inl (by decide)) ((ok_lxO lo h.2.2.1).app (AllOk.cons (ok_sig (by decide)) ((ok_lxO hi h.2.2.2).app (AllOk.one (ok_sig (by decide)))))))
  | .int i, h => by
    unfold Ok at h
    exact AllOk.one (by show i.toNat < 10 ^ 12; omega)
  | .real m e, h => by unfold Ok at h; exact AllOk.one h.2
  | .dble m e, h => by unfold Ok at h; exact AllOk.one h.2
  | .log _, _ => AllOk.one trivial
  | .chr s, h => AllOk.one h
  | .cplx a b, h => by
    unfold Ok at h
    rw [lx]
    exact AllOk.cons (x := .o tLP) (ok_sig (by decide)) ((ok_num h.1).app (AllOk.cons (x := .o tCM) (ok_sig (by decide)) ((ok_num h.2).app (AllOk.one (ok_sig (by decide))))))
theorem ok_lxO : ∀ o : TrO, OkO o → AllOk (lxO o)
  | .none, _ => AllOk.nil
  | .some t, h => by unfold OkO at h; rw [lxO]; exact ok_lx t h
theorem ok_row : ∀ as : Trs, Oks as → AllOk (row as)
  | .nil, _ => AllOk.nil
  | .cons t r, h => by
    unfold Oks at h
    rw [row]
    exact (ok_lx t h.1).app (ok_rowT r h.2)
theorem ok_rowT : ∀ as : Trs, Oks as → AllOk (rowT as)
  | .nil, _ => AllOk.nil
  | .cons t r, h => by
    unfold Oks at h
    rw [rowT]
    exact AllOk.cons (x := .o tCM) (ok_sig (by decide)) ((ok_lx t h.1).app (ok_rowT r h.2))
end
/-! signs of the texts -/
def NumCh (c : Nat) : Prop := (48 ≤ c ∧ c ≤ 57) ∨ c = 46 ∨ c = 45 ∨ c = 68 ∨ c = 69
theorem intText_ch (e : Int) : ∀ c ∈ intText e, NumCh c := by
  intro c hc
  rw [(intText_sgn e).1] at hc
  rcases List.mem_append.mp hc with q | q
  · unfold sgn at q
    split at q
    · rw [List.mem_singleton.mp q]; exact .inr (.inr (.inl rfl))
    · cases q
  · exact .inl (dg_dig _ c q)
theorem showPair_ch {m : Nat} {e : Int} {k : Nat} (hk : k = 69 ∨ k = 68) : ∀ c ∈ showPair m e k, NumCh c := by
  intro c hc
  have hp : NumCh 46 := .inr (.inl rfl)
  have hk' : NumCh k := by rcases hk with rfl | rfl; exact .inr (.inr (.inr (.inr rfl))); exact .inr (.inr (.inr (.inl rfl)))
  have hi : ∀ c ∈ intText (m : Int), NumCh c := intText_ch m
  unfold showPair at hc
  split at hc
  · simp only [List.mem_append, List.mem_singleton] at hc
    rcases hc with ((q | q) | q) | q
    · exact hi c q
    · rw [q]; exact hp
    · rw [q]; exact hk'
    · exact intText_ch e c q
  · split at hc
    · simp only [List.mem_append, List.mem_singleton] at hc
      rcases hc with q | q
      · exact hi c q
      · rw [q]; exact hp
    · split at hc
      · simp only [List.mem_append, List.mem_singleton] at hc
        rcases hc with (q | q) | q
        · rw [q]; exact hp
        · exact .inl (DG.zeros _ c q)
        · exact hi c q
      · simp only [List.mem_append, List.mem_singleton] at hc
        rcases hc with (q | q) | q
        · exact hi c (List.mem_of_mem_take q)
        · rw [q]; exact hp
        · exact hi c (List.mem_of_mem_drop q)
theorem dot_ch : ∀ w ∈ dotL ++ truL, (w.all fun c => decide (c = 46 ∨ (65 ≤ c ∧ c ≤ 90))) = true := by decide
theorem nam_ch : ∀ s ∈ nameL, (s.all fun c => decide ((65 ≤ c ∧ c ≤ 90) ∨ (48 ≤ c ∧ c ≤ 57))) = true := by decide
/-- the signs of a value that is not quoted -/
theorem val_ch {x : Tok} (ok : TokOk x) (hv : isV (.t x) = true) (hq : ∀ s, x ≠ .chr s) : ∀ c ∈ x.tx, (48 ≤ c ∧ c ≤ 57) ∨ (65 ≤ c ∧ c ≤ 90) ∨ c = 46 ∨ c = 45 := by
  have hn : ∀ c, NumCh c → (48 ≤ c ∧ c ≤ 57) ∨ (65 ≤ c ∧ c ≤ 90) ∨ c = 46 ∨ c = 45 := fun c h => by unfold NumCh at h; omega
  match x, ok, hv with
  | .int v, _, _ => exact fun c hc => hn c (intText_ch _ c hc)
  | .real m e, _, _ => exact fun c hc => hn c (showPair_ch (.inl rfl) c hc)
  | .dble m e, _, _ => exact fun c hc => hn c (showPair_ch (.inr rfl) c hc)
  | .log b, _, _ =>
    intro c hc
    cases b with
    | true =>
      have := List.all_eq_true.mp (dot_ch [46, 84, 82, 85, 69, 46] (by decide)) c hc
      have := of_decide_eq_true this
      omega
    | false =>
      have := List.all_eq_true.mp (dot_ch [46, 70, 65, 76, 83, 69, 46] (by decide)) c hc
      have := of_decide_eq_true this
      omega
  | .chr s, _, _ => exact absurd rfl (hq s)
  | .nam s, ok, _ =>
    intro c hc
    have := List.all_eq_true.mp (nam_ch s ok) c hc
    have := of_decide_eq_true this
    omega
theorem val_head {x : Tok} (ok : TokOk x) (hv : isV (.t x) = true) {R r : List Nat} {c : Nat} (h : x.tx ++ R = c :: r) : c ≠ 42 ∧ c ≠ 47 := by
  have hm : c ∈ x.tx := by
    have := tx_pos ok
    cases q : x.tx with
    | nil => rw [q] at this; simp at this
    | cons a b => rw [q] at h; cases h; exact .head _
  by_cases hq : ∃ s, x = .chr s
  · obtain ⟨s, rfl⟩ := hq
    have h : 39 :: (dbl39 s ++ [39] ++ R) = c :: r := h
    cases h
    decide
  · have := val_ch ok hv (fun s q => hq ⟨s, q⟩) c hm
    omega
theorem lexb_of : ∀ (l : List Lx) (p : Lx), ChF Adj' p l → AllOk l → Lexb l
  | [], _, _, _ => trivial
  | [x], p, h, ok => by
    refine ⟨ok x (.head _), ?_, trivial⟩
    show Fol x.tok []
    have hn : ∀ S, NoHead S [] := fun S c r q => by cases q
    match x with
    | .lpA => exact ⟨fun _ => hn _, fun _ => hn _⟩
    | .t (.op s) => exact ⟨fun _ => hn _, fun _ => hn _⟩
    | .t (.int _) | .t (.real _ _) | .t (.dble _ _) | .t (.log _) | .t (.chr _) | .t (.nam _) => exact .inl rfl
  | x :: y :: r, p, h, ok => by
    refine ⟨ok x (.head _), ?_, lexb_of (y :: r) x h.2 fun z hz => ok z (.tail _ hz)⟩
    have hA := h.2.1
    have oky := ok y (.tail _ (.head _))
    show Fol x.tok (y.tx ++ txs r)
    have hval : isV x = true → FolV (y.tx ++ txs r) := by
      intro hv
      have hy := hA.v hv
      have key : ∀ s, s ∈ sigOps ∨ s ∈ dotL → FolV (s ++ txs r) := by
        intro s hs
        rcases hs with hs | hs
        · right; left
          simp only [sigOps, List.mem_cons, List.not_mem_nil, or_false] at hs
          rcases hs with rfl | rfl | rfl | rfl | rfl | rfl | rfl | rfl | rfl | rfl <;> exact ⟨_, _, rfl, by decide⟩
        · exact .inr (.inr ⟨s, _, rfl, hs⟩)
      match y, hy, oky with
      | .lpA, _, _ => exact key tLP (.inl (by decide))
      | .t (.op s), _, oky => exact key s oky
    have hst : x = .o [42] ∨ x = .o [47] → ∀ c q, y.tx ++ txs r = c :: q → c ≠ 42 ∧ c ≠ 47 := by
      intro hx c q e
      have hn := hA.st hx
      match y, hn, oky, e with
      | .lpA, _, _, e => cases e; decide
      | .t (.op s), hn, oky, e =>
        have hs := hn s rfl
        have e : s ++ txs r = c :: q := e
        have h1 : 1 ≤ s.length := tx_pos (x := .op s) oky
        cases s with
        | nil => simp at h1
        | cons a b =>
          cases e
          simpa using hs
      | .t (.int v), _, oky, e => exact val_head oky rfl e
      | .t (.real _ _), _, oky, e => exact val_head oky rfl e
      | .t (.dble _ _), _, oky, e => exact val_head oky rfl e
      | .t (.log _), _, oky, e => exact val_head oky rfl e
      | .t (.chr _), _, oky, e => exact val_head oky rfl e
      | .t (.nam _), _, oky, e => exact val_head oky rfl e
    match x, hval, hst with
    | .lpA, _, _ => exact ⟨fun q => (by cases q), fun q => (by cases q)⟩
    | .t (.op s), _, hst =>
      refine ⟨fun q => ?_, fun q => ?_⟩
      · subst q
        intro c r' e
        have := (hst (.inl rfl) c r' e).1
        simp [this]
      · subst q
        intro c r' e
        have := (hst (.inr rfl) c r' e).2
        simp [this]
    | .t (.int _), hval, _ | .t (.real _ _), hval, _ | .t (.dble _ _), hval, _ | .t (.log _), hval, _ | .t (.chr _), hval, _ | .t (.nam _), hval, _ => exact hval rfl
theorem Adj.w {a b : Lx} (h : Adj a b) : Adj' a b := ⟨h.v, fun q => h.st (q.elim .inl fun q => .inr (.inl q))⟩
/-- the printed tree is lexed -/
theorem lexb_lx {t : Tr} (h : Ok t) : Lexb (lx t) :=
  lexb_of _ (.o tLP) (chF_imp (fun _ _ q => q.w) _ _ (px t h (.o tLP) (opn_op (by decide))).1) (ok_lx t h)
/-- and so it is without a pair of brackets about an operand -/
theorem lexb_less {A B C : List Lx} (h : ChF Adj (.o tLP) (A ++ .o tLP :: (B ++ .o tRP :: C))) (ok : AllOk (A ++ .o tLP :: (B ++ .o tRP :: C))) : Lexb (A ++ (B ++ C)) := by
  rw [chF_app, ChF, chF_app, ChF] at h
  obtain ⟨h1, h2, h3, h4, h5⟩ := h
  have w : ∀ a b, Adj a b → Adj' a b := fun _ _ q => q.w
  refine lexb_of _ (.o tLP) ?_ ?_
  · rw [chF_app, chF_app]
    refine ⟨chF_imp w _ _ h1, ?_⟩
    cases B with
    | nil => exact absurd rfl (h4.nr (.inr (.inr rfl)))
    | cons b B =>
      refine ⟨⟨⟨fun q => ?_, fun q => h3.1.st (.inr (.inr rfl))⟩, chF_imp w _ _ h3.2⟩, ?_⟩
      · rw [h2.lo rfl] at q; cases q
      · rw [lastL]
        rw [lastL] at h4
        cases C with
        | nil => trivial
        | cons c C =>
          exact ⟨⟨fun q => h5.1.rp rfl, fun q => absurd rfl (h4.nr (q.elim .inl fun q => .inr (.inl q)))⟩, chF_imp w _ _ h5.2⟩
  · intro x hx
    refine ok x ?_
    simp only [List.mem_append, List.mem_cons] at hx ⊢
    rcases hx with q | q | q
    · exact .inl q
    · exact .inr (.inr (.inl q))
    · exact .inr (.inr (.inr (.inr q)))
end Mine
namespace Mine
def bodyP : PSs := (.cons (.iff (.cmp .eq (.idx (.var 0) (.var 4)) (.cst (.str [39]))) (.cons (.asg 3 (.not (.var 3))) .nil) (.cons (.iff (.var 3) (.cons .cont .nil) (.cons (.iff (.cmp .eq (.idx (.var 0) (.var 4)) (.cst (.str [40]))) (.cons (.exp (.me .append (.var 2) (.cons (.lst (.cons (.var 4) (.cons (.bool false (.cons (.cmp .eq (.var 4) (.cst (.int 0))) (.cons (.not (.bool false (.cons (.me .isalnum (.idx (.var 0) (.bin .sub (.var 4) (.cst (.int 1)))) .nil) (.cons (.cmp .eq (.idx (.var 0) (.bin .sub (.var 4) (.cst (.int 1)))) (.cst (.str [41]))) .nil)))) .nil))) .nil))) .nil))) .nil) (.cons (.iff (.bool true (.cons (.cmp .eq (.idx (.var 0) (.var 4)) (.cst (.str [44]))) (.cons (.var 2) .nil))) (.cons (.put (.idx (.var 2) (.neg (.cst (.int 1)))) (.cst (.int 1)) (.cst (.bool false))) .nil) (.cons (.iff (.cmp .eq (.idx (.var 0) (.var 4)) (.cst (.str [41]))) (.cons (.asgT [5, 6] (.me .pop (.var 2) .nil)) (.cons (.iff (.var 6) (.cons (.exp (.me .append (.var 1) (.cons (.tup (.cons (.var 5) (.cons (.var 4) .nil))) .nil))) .nil) .nil) .nil)) .nil) .nil)) .nil)) .nil)) .nil)) .nil)
def flagP : PE := (.bool false (.cons (.cmp .eq (.var 4) (.cst (.int 0))) (.cons (.not (.bool false (.cons (.me .isalnum (.idx (.var 0) (.bin .sub (.var 4) (.cst (.int 1)))) .nil) (.cons (.cmp .eq (.idx (.var 0) (.bin .sub (.var 4) (.cst (.int 1)))) (.cst (.str [41]))) .nil)))) .nil)))
theorem forN_app {k : Nat} {B : EX} {b : Nat} : ∀ {a : Nat} {i : Int} {env env' : Env'} {σ σ' : Store}, forN k B a i env σ = .ok (.next, env', σ') → forN k B (a + b) i env σ = forN k B b (i + a) env' σ'
  | 0, i, env, env', σ, σ', h => by
    cases h
    simp
  | a + 1, i, env, env', σ, σ', h => by
    rw [show a + 1 + b = (a + b) + 1 by omega]
    unfold forN at h
    conv => lhs; unfold forN
    cases hB : B (env.set k (some (.int i))) σ with
    | exc => rw [hB] at h; cases h
    | stuck => rw [hB] at h; cases h
    | ok q =>
      rw [hB] at h
      rw [ok_bind] at h ⊢
      obtain ⟨f, e1, s1⟩ := q
      cases f with
      | ret v => cases h
      | next =>
        dsimp only at h ⊢
        rw [forN_app h, show i + 1 + (a : Int) = i + ((a + 1 : Nat) : Int) by omega]
      | cont =>
        dsimp only at h ⊢
        rw [forN_app h, show i + 1 + (a : Int) = i + ((a + 1 : Nat) : Int) by omega]
def envP (T : List Nat) (b : Bool) (v4 v5 v6 : Option PV) : Env' := [some (.str T), some (.loc 0), some (.loc 1), some (.bool b), v4, v5, v6]
section
variable {C : Nat → List PV → Store → Out (PV × Store)} {N : Nat} {T R : List Nat} {n c : Nat} {σ : Store} {v4 v5 v6 : Option PV}
theorem p_plain (hT : T.length ≤ szL) (h : T.drop n = c :: R) (h1 : c ≠ 39) (h2 : c ≠ 40) (h3 : c ≠ 41) (h4 : c ≠ 44) : exs C N bodyP ((envP T false v4 v5 v6).set 4 (some (.int n))) σ = .ok (.next, envP T false (some (.int n)) v5 v6, σ) := by
  unfold bodyP envP
  have e1 : (([c] : List Nat) = [39]) = False := by simp [h1]
  have e2 : (([c] : List Nat) = [40]) = False := by simp [h2]
  have e3 : (([c] : List Nat) = [41]) = False := by simp [h3]
  have e4 : (([c] : List Nat) = [44]) = False := by simp [h4]
  simp only [eg, idx_at h hT, e1, e2, e3, e4]
theorem p_quote (hT : T.length ≤ szL) (h : T.drop n = 39 :: R) (b : Bool) : exs C N bodyP ((envP T b v4 v5 v6).set 4 (some (.int n))) σ = .ok (.next, envP T (!b) (some (.int n)) v5 v6, σ) := by
  unfold bodyP envP
  simp only [eg, idx_at h hT]
theorem p_in (hT : T.length ≤ szL) (h : T.drop n = c :: R) (h1 : c ≠ 39) : exs C N bodyP ((envP T true v4 v5 v6).set 4 (some (.int n))) σ = .ok (.cont, envP T true (some (.int n)) v5 v6, σ) := by
  unfold bodyP envP
  have e1 : (([c] : List Nat) = [39]) = False := by simp [h1]
  simp only [eg, idx_at h hT, e1]
theorem forN_one {k : Nat} {B : EX} {i : Int} {env env' : Env'} {σ σ' : Store} (h : B (env.set k (some (.int i))) σ = .ok (.next, env', σ')) : forN k B 1 i env σ = .ok (.next, env', σ') := by
  rw [forN_step h]; rfl
theorem r_plain (hT : T.length ≤ szL) : ∀ (l : List Nat) (n : Nat) (v4 : Option PV), T.drop n = l ++ R → (∀ c ∈ l, c ≠ 39 ∧ c ≠ 40 ∧ c ≠ 41 ∧ c ≠ 44) → ∃ w4, forN 4 (exs C N bodyP) l.length n (envP T false v4 v5 v6) σ = .ok (.next, envP T false w4 v5 v6, σ)
  | [], n, v4, _, _ => ⟨v4, rfl⟩
  | c :: l, n, v4, h, hc => by
    obtain ⟨h1, h2, h3, h4⟩ := hc c (.head _)
    obtain ⟨w4, ih⟩ := r_plain hT l (n + 1) (some (.int n)) (at_next h) fun x hx => hc x (.tail _ hx)
    refine ⟨w4, ?_⟩
    rw [List.length_cons, forN_step (p_plain hT h h1 h2 h3 h4), ci1, ih]
theorem r_quoted (hT : T.length ≤ szL) : ∀ (s : List Nat) (n : Nat) (v4 : Option PV), T.drop n = dbl39 s ++ R → ∃ w4, forN 4 (exs C N bodyP) (dbl39 s).length n (envP T true v4 v5 v6) σ = .ok (.next, envP T true w4 v5 v6, σ)
  | [], n, v4, _ => ⟨v4, rfl⟩
  | c :: s, n, v4, h => by
    by_cases hc : c = 39
    · subst hc
      rw [show dbl39 (39 :: s) = 39 :: 39 :: dbl39 s by rw [dbl39, if_pos rfl]] at h ⊢
      have h1 := at_next h
      obtain ⟨w4, ih⟩ := r_quoted hT s (n + 1 + 1) (some (.int ((n + 1 : Nat) : Int))) (at_next h1)
      refine ⟨w4, ?_⟩
      rw [List.length_cons, List.length_cons, forN_step (p_quote hT h true), ci1, forN_step (p_quote hT h1 (!true)), ci1]
      exact ih
    · rw [show dbl39 (c :: s) = c :: dbl39 s by rw [dbl39, if_neg hc]] at h ⊢
      obtain ⟨w4, ih⟩ := r_quoted hT s (n + 1) (some (.int n)) (at_next h)
      refine ⟨w4, ?_⟩
      rw [List.length_cons, forN_cont (p_in hT h hc), ci1, ih]
theorem r_chr (hT : T.length ≤ szL) {s : List Nat} (h : T.drop n = (Tok.chr s).tx ++ R) : ∃ w4, forN 4 (exs C N bodyP) (Tok.chr s).tx.length n (envP T false v4 v5 v6) σ = .ok (.next, envP T false w4 v5 v6, σ) := by
  have h0 : T.drop n = 39 :: (dbl39 s ++ (39 :: R)) := by rw [h]; simp [Tok.tx]
  have h1 := at_next h0
  have h2 : T.drop (n + 1 + (dbl39 s).length) = 39 :: R := at_skip h1
  obtain ⟨w4, e1⟩ := r_quoted (C := C) (N := N) (σ := σ) (v5 := v5) (v6 := v6) hT s (n + 1) (some (.int n)) h1
  refine ⟨some (.int ((n + 1 + (dbl39 s).length : Nat) : Int)), ?_⟩
  · rw [show (Tok.chr s).tx.length = ((dbl39 s).length + 1) + 1 by simp [Tok.tx], forN_step (p_quote hT h0 false), ci1]
    rw [show (!false) = true from rfl, forN_app e1]
    exact forN_one (by
      have := p_quote (C := C) (N := N) (σ := σ) (v4 := w4) (v5 := v5) (v6 := v6) hT h2 true
      exact this)
theorem cs1 (m : Nat) : ((m + 1 : Nat) : Int) - 1 = (m : Int) := by omega
theorem fl_zero {env : Env'} (h : env.getD 4 none = some (.int 0)) : (ev C flagP).1 env σ = .ok (.bool true, σ) := by
  unfold flagP
  simp only [ev_boolv, evb_cons, ev_cmp, ev_var, ev_cst, h, eg]
def alnum (c : Nat) : Bool := (48 ≤ c && c ≤ 57) || (65 ≤ c && c ≤ 90) || (97 ≤ c && c ≤ 122)
theorem fl_succ {b : Bool} (hT : T.length ≤ szL) (h : T.drop n = c :: R) (hc : c < 128) : (ev C flagP).1 (envP T b (some (.int ((n + 1 : Nat) : Int))) v5 v6) σ = .ok (.bool (!(alnum c || decide (c = 41))), σ) := by
  unfold flagP envP
  have e0 : (((n + 1 : Nat) : Int) = 0) = False := by simp only [eq_iff_iff, iff_false]; omega
  have e1 : meP .isalnum (.str [c]) [] σ = .ok (.bool (alnum c), σ) := by simp only [meP, hc, if_true, alnum]
  have e2 : (([c] : List Nat) = [41]) = (c = 41) := by simp
  cases ha : alnum c with
  | true => simp only [eg, e0, cs1, idx_at h hT, recvP, e1, ha, Bool.true_or]
  | false => simp only [eg, e0, cs1, idx_at h hT, recvP, e1, ha, e2, Bool.false_or]
end
end Mine
namespace Mine
/-- two brackets of the pieces -/
def PrOk (P : List Lx) (p : Nat × Nat) : Prop := ∃ A B C, P = A ++ .o tLP :: (B ++ .o tRP :: C) ∧ p.1 = (txs A).length ∧ p.2 = (txs (A ++ .o tLP :: B)).length
def OpOk (P : List Lx) (pos : Nat) (fl : Bool) : Prop := ∃ A x B, P = A ++ x :: B ∧ x.tok = .op tLP ∧ pos = (txs A).length ∧ (fl = true → x = .o tLP)
theorem PrOk.app {P : List Lx} {p : Nat × Nat} (h : PrOk P p) (Q : List Lx) : PrOk (P ++ Q) p := by
  obtain ⟨A, B, C, rfl, h2, h3⟩ := h
  exact ⟨A, B, C ++ Q, by simp, h2, h3⟩
theorem OpOk.app {P : List Lx} {pos : Nat} {fl : Bool} (h : OpOk P pos fl) (Q : List Lx) : OpOk (P ++ Q) pos fl := by
  obtain ⟨A, x, B, rfl, h2, h3, h4⟩ := h
  exact ⟨A, x, B ++ Q, by simp, h2, h3, h4⟩
structure Sto (P : List Lx) (dp : Nat) (prs : List (Nat × Nat)) (ks : List Nat) (ents : Store) : Prop where
  hprs : ∀ p ∈ prs, PrOk P p
  hks : ∀ k ∈ ks, ∃ pos fl, ents[k]? = some [.int (pos : Nat), .bool fl] ∧ OpOk P pos fl
  hdp : ks.length = dp
  hsz : prs.length + ks.length ≤ P.length
def stoP (prs : List (Nat × Nat)) (ks : List Nat) (ents : Store) : Store := pairsV prs :: ks.map (fun k => PV.loc (k + 2)) :: ents
theorem Sto.app {P : List Lx} {dp : Nat} {prs : List (Nat × Nat)} {ks : List Nat} {ents : Store} (h : Sto P dp prs ks ents) (Q : List Lx) : Sto (P ++ Q) dp prs ks ents where
  hprs p hp := (h.hprs p hp).app Q
  hks k hk := by
    obtain ⟨pos, fl, h1, h2⟩ := h.hks k hk
    exact ⟨pos, fl, h1, h2.app Q⟩
  hdp := h.hdp
  hsz := by have := h.hsz; rw [List.length_append]; omega
section
variable {C : Nat → List PV → Store → Out (PV × Store)} {N : Nat} {T R : List Nat} {n c : Nat} {σ : Store} {v4 v5 v6 : Option PV} {prs : List (Nat × Nat)} {ks : List Nat} {ents : Store}
theorem sto1 : (stoP prs ks ents)[1]? = some (ks.map fun k => PV.loc (k + 2)) := rfl
theorem sto0 : (stoP prs ks ents)[0]? = some (pairsV prs) := rfl
theorem stok {k : Nat} : (stoP prs ks ents)[k + 2]? = ents[k]? := rfl
theorem sto_set1 {l : List Nat} : (stoP prs ks ents).set 1 (l.map fun k => PV.loc (k + 2)) = stoP prs l ents := rfl
theorem sto_set0 {l : List (Nat × Nat)} : (stoP prs ks ents).set 0 (pairsV l) = stoP l ks ents := rfl
theorem sto_setk {k : Nat} {l : List PV} : (stoP prs ks ents).set (k + 2) l = stoP prs ks (ents.set k l) := rfl
theorem sto_len : (stoP prs ks ents).length = ents.length + 2 := rfl
theorem sto_app {l : List PV} : stoP prs ks ents ++ [l] = stoP prs ks (ents ++ [l]) := rfl
theorem iff_t {t : PE} {a b : PSs} {env : Env'} {σ' : Store} (h : (ev C t).2 env σ = .ok (true, σ')) : ex C N (.iff t a b) env σ = exs C N a env σ' := by
  rw [ex_iff, h]; rfl
theorem iff_f {t : PE} {a b : PSs} {env : Env'} {σ' : Store} (h : (ev C t).2 env σ = .ok (false, σ')) : ex C N (.iff t a b) env σ = exs C N b env σ' := by
  rw [ex_iff, h]; rfl
theorem exs_single {s : PS} {env env' : Env'} {σ' : Store} (h : ex C N s env σ = .ok (.next, env', σ')) : exs C N (.cons s .nil) env σ = .ok (.next, env', σ') := by
  rw [exs_next h, exs_nil]
theorem p_lp {fl : Bool} (hT : T.length ≤ szL) (h : T.drop n = 40 :: R) (hf : (ev C flagP).1 (envP T false (some (.int n)) v5 v6) (stoP prs ks ents) = .ok (.bool fl, stoP prs ks ents)) (hk : ks.length < szL) :
    exs C N bodyP ((envP T false v4 v5 v6).set 4 (some (.int n))) (stoP prs ks ents) = .ok (.next, envP T false (some (.int n)) v5 v6, stoP prs (ks ++ [ents.length]) (ents ++ [[.int n, .bool fl]])) := by
  have e1 : (([40] : List Nat) = [39]) = False := by simp
  have hk' : (ks.map fun k => PV.loc (k + 2)).length < szL := by rw [List.length_map]; exact hk
  have hm : meP .append (.loc 1) [.loc (stoP prs ks ents).length] (stoP prs ks ents ++ [[.int n, .bool fl]]) = .ok (.none, stoP prs (ks ++ [ents.length]) (ents ++ [[.int n, .bool fl]])) := by
    rw [sto_app, sto_len]
    simp only [meP, sto1]
    rw [if_pos hk']
    have : (ks.map fun k => PV.loc (k + 2)) ++ [.loc (ents.length + 2)] = (ks ++ [ents.length]).map fun k => PV.loc (k + 2) := by simp
    rw [this, sto_set1]
  have hst : ex C N (.exp (.me .append (.var 2) (.cons (.lst (.cons (.var 4) (.cons flagP .nil))) .nil))) (envP T false (some (.int n)) v5 v6) (stoP prs ks ents) = .ok (.next, envP T false (some (.int n)) v5 v6, stoP prs (ks ++ [ents.length]) (ents ++ [[.int n, .bool fl]])) := by
    rw [ex_exp, ev_me, ev_var]
    rw [show (envP T false (some (.int n)) v5 v6).getD 2 none = some (.loc 1) from rfl, liftO_some, ok_bind]
    rw [show recvP .append (.loc 1) = true from rfl]
    dsimp only
    rw [evs_cons, ev_lst, evs_cons, ev_var]
    rw [show (envP T false (some (.int n)) v5 v6).getD 4 none = some (.int n) from rfl, liftO_some, ok_bind]
    dsimp only
    rw [evs_cons, hf, ok_bind]
    simp only [ok_bind, evs_nil, hm]
  unfold bodyP
  refine exs_single ?_
  rw [iff_f (σ' := stoP prs ks ents) (by unfold envP; simp only [eg, idx_at h hT, e1])]
  refine exs_single ?_
  rw [iff_f (σ' := stoP prs ks ents) (by unfold envP; simp only [eg])]
  refine exs_single ?_
  rw [iff_t (σ' := stoP prs ks ents) (by unfold envP; simp only [eg, idx_at h hT])]
  refine exs_single ?_
  exact hst
theorem eq_loc {k : Nat} : idxP (stoP prs ks ents) (.loc 1) (.int (-1)) = ((ks.getLast?).map fun k => PV.loc (k + 2)) := by
  have hr : Int.natAbs (-1) < 2 ^ 62 := by decide
  simp only [idxP, hr, if_true, sto1, Option.bind_some]
  rw [List.getLast?_eq_getElem?]
  unfold pyIdx
  rw [if_neg (by decide), List.length_map]
  cases hk : ks.length with
  | zero =>
    rw [if_neg (by omega)]
    rw [List.length_eq_zero_iff.mp hk]; rfl
  | succ m =>
    rw [if_pos (by omega), Option.bind_some, List.getElem?_map]
    congr 2
    omega
theorem p_cm0 (hT : T.length ≤ szL) (h : T.drop n = 44 :: R) : exs C N bodyP ((envP T false v4 v5 v6).set 4 (some (.int n))) (stoP prs [] ents) = .ok (.next, envP T false (some (.int n)) v5 v6, stoP prs [] ents) := by
  have e1 : (([44] : List Nat) = [39]) = False := by simp
  have e2 : (([44] : List Nat) = [40]) = False := by simp
  have e3 : (([44] : List Nat) = [41]) = False := by simp
  have ht : truthP (stoP prs [] ents) (.loc 1) = some false := rfl
  unfold bodyP envP
  simp only [eg, idx_at h hT, e1, e2, e3, ht]
theorem p_cm {k pos : Nat} {fl : Bool} (hT : T.length ≤ szL) (h : T.drop n = 44 :: R) (hk : ents[k]? = some [.int pos, .bool fl]) : exs C N bodyP ((envP T false v4 v5 v6).set 4 (some (.int n))) (stoP prs (ks ++ [k]) ents) = .ok (.next, envP T false (some (.int n)) v5 v6, stoP prs (ks ++ [k]) (ents.set k [.int pos, .bool false])) := by
  have e1 : (([44] : List Nat) = [39]) = False := by simp
  have e2 : (([44] : List Nat) = [40]) = False := by simp
  have ht : truthP (stoP prs (ks ++ [k]) ents) (.loc 1) = some true := by
    simp [truthP, sto1]
  have hi : idxP (stoP prs (ks ++ [k]) ents) (.loc 1) (.int (-1)) = some (.loc (k + 2)) := by
    rw [eq_loc (k := k)]; simp
  have hg : (stoP prs (ks ++ [k]) ents)[k + 2]? = some [.int pos, .bool fl] := hk
  have hp : ex C N (.put (.idx (.var 2) (.neg (.cst (.int 1)))) (.cst (.int 1)) (.cst (.bool false))) (envP T false (some (.int n)) v5 v6) (stoP prs (ks ++ [k]) ents) = .ok (.next, envP T false (some (.int n)) v5 v6, stoP prs (ks ++ [k]) (ents.set k [.int pos, .bool false])) := by
    rw [ex_put, ev_cst, ok_bind, ev_idx, ev_var]
    rw [show (envP T false (some (.int n)) v5 v6).getD 2 none = some (.loc 1) from rfl, liftO_some, ok_bind]
    dsimp only
    rw [ev_neg, ev_cst, ok_bind]
    dsimp only
    rw [ok_bind]
    dsimp only
    rw [hi, liftO_some, ok_bind]
    dsimp only
    rw [ev_cst, ok_bind]
    dsimp only
    rw [hg]
    dsimp only
    rw [if_pos ⟨by decide, by simp⟩]
    rfl
  unfold bodyP
  refine exs_single ?_
  rw [iff_f (σ' := stoP prs (ks ++ [k]) ents) (by unfold envP; simp only [eg, idx_at h hT, e1])]
  refine exs_single ?_
  rw [iff_f (σ' := stoP prs (ks ++ [k]) ents) (by unfold envP; simp only [eg])]
  refine exs_single ?_
  rw [iff_f (σ' := stoP prs (ks ++ [k]) ents) (by unfold envP; simp only [eg, idx_at h hT, e2])]
  refine exs_single ?_
  rw [iff_t (σ' := stoP prs (ks ++ [k]) ents) (by unfold envP; simp only [eg, idx_at h hT, ht])]
  refine exs_single ?_
  exact hp
theorem p_rp {k pos : Nat} {fl : Bool} (hT : T.length ≤ szL) (h : T.drop n = 41 :: R) (hk : ents[k]? = some [.int pos, .bool fl]) (hl : prs.length < szL) : ∃ w5 w6, exs C N bodyP ((envP T false v4 v5 v6).set 4 (some (.int n))) (stoP prs (ks ++ [k]) ents) = .ok (.next, envP T false (some (.int n)) w5 w6, stoP (if fl then prs ++ [(pos, n)] else prs) ks ents) := by
  have e1 : (([41] : List Nat) = [39]) = False := by simp
  have e2 : (([41] : List Nat) = [40]) = False := by simp
  have e3 : (([41] : List Nat) = [44]) = False := by simp
  have hp : meP .pop (.loc 1) [] (stoP prs (ks ++ [k]) ents) = .ok (.loc (k + 2), stoP prs ks ents) := by
    simp only [meP, sto1]
    rw [show ((ks ++ [k]).map fun k => PV.loc (k + 2)).getLast? = some (.loc (k + 2)) by simp]
    dsimp only
    rw [show ((ks ++ [k]).map fun k => PV.loc (k + 2)).dropLast = ks.map fun k => PV.loc (k + 2) by simp, sto_set1]
  have hg : (stoP prs ks ents)[k + 2]? = some [.int pos, .bool fl] := hk
  refine ⟨some (.int pos), some (.bool fl), ?_⟩
  unfold bodyP envP
  cases fl with
  | false =>
    simp only [eg, idx_at h hT, e1, e2, e3, recvP, hp, hg]
    rfl
  | true =>
    have hm : meP .append (.loc 0) [.tup [.int pos, .int n]] (stoP prs ks ents) = .ok (.none, stoP (prs ++ [(pos, n)]) ks ents) := by
      simp only [meP, sto0]
      rw [if_pos (by unfold pairsV; rw [List.length_map]; exact hl)]
      have : pairsV prs ++ [.tup [.int pos, .int n]] = pairsV (prs ++ [(pos, n)]) := by simp [pairsV]
      rw [this, sto_set0]
    simp only [eg, idx_at h hT, e1, e2, e3, recvP, hp, hg, hm]
end
end Mine
namespace Mine
/-! no bracket is closed that was not opened -/
def BalL : Nat → List Lx → Prop
  | _, [] => True
  | k, x :: r => match x.tok with
    | .op s => if s = tLP then BalL (k + 1) r else if s = tRP then ∃ j, k = j + 1 ∧ BalL j r else BalL k r
    | _ => BalL k r
theorem balL_lp {k : Nat} {x : Lx} {r : List Lx} (h : x.tok = .op tLP) : BalL k (x :: r) ↔ BalL (k + 1) r := by
  rw [BalL, h]; simp
theorem balL_rp {k : Nat} {r : List Lx} : BalL k (.o tRP :: r) ↔ ∃ j, k = j + 1 ∧ BalL j r := by
  rw [BalL]; simp [Lx.tok]
theorem balL_op {k : Nat} {s : List Nat} {r : List Lx} (h1 : s ≠ tLP) (h2 : s ≠ tRP) : BalL k (.o s :: r) ↔ BalL k r := by
  rw [BalL]; simp [Lx.tok, h1, h2]
theorem balL_v {k : Nat} {x : Lx} {r : List Lx} (h : isV x = true) : BalL k (x :: r) ↔ BalL k r := by
  match x, h with
  | .t (.int _), _ | .t (.real _ _), _ | .t (.dble _ _), _ | .t (.log _), _ | .t (.chr _), _ | .t (.nam _), _ => exact Iff.rfl
def BX (l : List Lx) : Prop := ∀ k r, BalL k r → BalL k (l ++ r)
theorem bx_nil : BX [] := fun _ _ h => h
theorem bx_app {a b : List Lx} (h : BX a) (g : BX b) : BX (a ++ b) := fun k r q => by rw [List.append_assoc]; exact h _ _ (g _ _ q)
theorem bx_v {x : Lx} (h : isV x = true) : BX [x] := fun k r q => (balL_v h).mpr q
theorem bx_op {s : List Nat} (h1 : s ≠ tLP) (h2 : s ≠ tRP) : BX [.o s] := fun k r q => (balL_op h1 h2).mpr q
theorem bx_br {x : Lx} {l : List Lx} (hx : x.tok = .op tLP) (h : BX l) : BX (x :: (l ++ [.o tRP])) := fun k r q => by
  rw [List.cons_append, List.append_assoc]
  exact (balL_lp hx).mpr (h _ _ (balL_rp.mpr ⟨k, rfl, q⟩))
theorem bx_wrap {l : List Lx} (h : BX l) (b : Bool) : BX (wrap b l) := by
  cases b with
  | false => exact h
  | true => exact bx_br rfl h
theorem bx_num (a : Num) : BX a.lx := by
  cases a with
  | int i =>
    simp only [Num.lx]
    split
    · exact bx_app (bx_op (by decide) (by decide)) (bx_v rfl)
    · exact bx_v rfl
  | real m e =>
    simp only [Num.lx]
    split
    · exact bx_app (bx_op (by decide) (by decide)) (bx_v rfl)
    · exact bx_v rfl
theorem un_ne {s : List Nat} (h : s = tNOT ∨ s = tPL ∨ s = tMI) : s ≠ tLP ∧ s ≠ tRP := by
  rcases h with rfl | rfl | rfl <;> decide
mutual
theorem bx_lx : ∀ t : Tr, Ok t → BX (lx t)
  | .bin op l r, h => by
    unfold Ok at h
    rw [lx]
    exact bx_app (bx_wrap (bx_lx l h.2.1) _) (bx_app (a := [_]) (bx_op (ops_ne op h.1).2 (ops_ne op h.1).1) (bx_wrap (bx_lx r h.2.2) _))
  | .un op a, h => by
    unfold Ok at h
    rw [lx]
    exact bx_app (a := [_]) (bx_op (un_ne h.1).1 (un_ne h.1).2) (bx_wrap (bx_lx a h.2) _)
  | .nam _, _ => bx_v rfl
  | .ref s as, h => by
    unfold Ok at h
    rw [lx]
    exact bx_app (a := [_]) (bx_v rfl) (bx_br rfl (bx_row as h.2))
  | .sub b lo hi, h => by
    unfold Ok at h
    rw [lx]
    have := bx_br (x := .lpA) rfl (bx_app (bx_lxO lo h.2.2.1) (bx_app (a := [_]) (bx_op (s := tCL) (by decide) (by decide)) (bx_lxO hi h.2.2.2)))
    refine bx_app (bx_lx b h.2.1) ?_
    simpa using this
  | .int _, _ => bx_v rfl
  | .real _ _, _ => bx_v rfl
  | .dble _ _, _ => bx_v rfl
  | .log _, _ => bx_v rfl
  | .chr _, _ => bx_v rfl
  | .cplx a b, h => by
    rw [lx]
    have := bx_br (x := .o tLP) rfl (bx_app (bx_num a) (bx_app (a := [_]) (bx_op (s := tCM) (by decide) (by decide)) (bx_num b)))
    simpa using this
theorem bx_lxO : ∀ o : TrO, OkO o → BX (lxO o)
  | .none, _ => bx_nil
  | .some t, h => by unfold OkO at h; rw [lxO]; exact bx_lx t h
theorem bx_row : ∀ as : Trs, Oks as → BX (row as)
  | .nil, _ => bx_nil
  | .cons t r, h => by unfold Oks at h; rw [row]; exact bx_app (bx_lx t h.1) (bx_rowT r h.2)
theorem bx_rowT : ∀ as : Trs, Oks as → BX (rowT as)
  | .nil, _ => bx_nil
  | .cons t r, h => by unfold Oks at h; rw [rowT]; exact bx_app (a := [_]) (bx_op (by decide) (by decide)) (bx_app (bx_lx t h.1) (bx_rowT r h.2))
end
theorem op_ch : ∀ s ∈ sigOps ++ dotL, s ≠ tLP → s ≠ tRP → s ≠ tCM → (s.all fun c => decide (c ≠ 39 ∧ c ≠ 40 ∧ c ≠ 41 ∧ c ≠ 44)) = true := by decide
theorem op_asc : ∀ s ∈ sigOps ++ dotL, (s.all fun c => decide (c < 128)) = true := by decide
theorem text_asc : ∀ s ∈ textL, (s.all fun c => decide (c < 128)) = true := by decide
theorem tok_asc {x : Tok} (ok : TokOk x) : ∀ c ∈ x.tx, c < 128 := by
  by_cases hv : isV (.t x) = true
  · by_cases hq : ∃ s, x = .chr s
    · obtain ⟨s, rfl⟩ := hq
      intro c hc
      have hs : ∀ c ∈ s, c < 128 := fun c hc => of_decide_eq_true (List.all_eq_true.mp (text_asc s ok) c hc)
      rcases List.mem_cons.mp (show c ∈ 39 :: (dbl39 s ++ [39]) from hc) with rfl | q
      · omega
      · rcases List.mem_append.mp q with q | q
        · exact dbl39_asc hs c q
        · rw [List.mem_singleton.mp q]; omega
    · intro c hc
      have := val_ch ok hv (fun s q => hq ⟨s, q⟩) c hc
      omega
  · match x, ok, hv with
    | .op s, ok, _ => exact fun c hc => of_decide_eq_true (List.all_eq_true.mp (op_asc s (List.mem_append.mpr ok)) c hc)
    | .int _, _, hv | .real _ _, _, hv | .dble _ _, _, hv | .log _, _, hv | .chr _, _, hv | .nam _, _, hv => exact absurd rfl hv
theorem txs_asc : ∀ {l : List Lx}, AllOk l → ∀ c ∈ txs l, c < 128
  | [], _, _, h => nomatch h
  | x :: r, ok, c, h => by
    rcases List.mem_append.mp (show c ∈ x.tx ++ txs r from h) with q | q
    · exact tok_asc (ok x (.head _)) c q
    · exact txs_asc (fun y hy => ok y (.tail _ hy)) c q
theorem snoc_ex {α : Type} {l : List α} (h : l ≠ []) : ∃ W c, l = W ++ [c] := ⟨l.dropLast, l.getLast h, (List.dropLast_concat_getLast h).symm⟩
theorem lastL_snoc {P' : List Lx} {y p : Lx} : lastL p (P' ++ [y]) = y := by rw [lastL_app]; rfl
section
variable {C : Nat → List PV → Store → Out (PV × Store)} {N : Nat} {T : List Nat} {v4 v5 v6 : Option PV} {prs : List (Nat × Nat)} {ks : List Nat} {ents : Store}
theorem flag_ex {P : List Lx} {R : List Nat} {σ : Store} (hT : T.length ≤ szL) (hasc : ∀ c ∈ T, c < 128) (hP : T = txs P ++ R) : ∃ fl, (ev C flagP).1 (envP T false (some (.int (txs P).length)) v5 v6) σ = .ok (.bool fl, σ) ∧ (fl = true → txs P = [] ∨ ∃ W c, txs P = W ++ [c] ∧ alnum c = false ∧ c ≠ 41) := by
  by_cases h : txs P = []
  · refine ⟨true, ?_, fun _ => .inl h⟩
    rw [h]
    exact fl_zero rfl
  · obtain ⟨W, c, hW⟩ := snoc_ex h
    have hd : T.drop W.length = c :: R := by rw [hP, hW]; simp
    have hc : c < 128 := hasc c (by rw [hP, hW]; simp)
    refine ⟨!(alnum c || decide (c = 41)), ?_, fun q => .inr ⟨W, c, hW, ?_⟩⟩
    · have := fl_succ (C := C) (σ := σ) (v5 := v5) (v6 := v6) (b := false) hT hd hc
      rw [show (txs P).length = W.length + 1 by rw [hW]; simp]
      exact this
    · simp only [Bool.not_eq_true', Bool.or_eq_false_iff, decide_eq_false_iff_not] at q
      exact q
theorem no_lpA {P : List Lx} (okP : AllOk P) (hA : Adj (lastL (.o tLP) P) .lpA) : ¬ (txs P = [] ∨ ∃ W c, txs P = W ++ [c] ∧ alnum c = false ∧ c ≠ 41) := by
  by_cases hP : P = []
  · subst hP
    rcases hA.la rfl with ⟨s, q⟩ | q <;> cases q
  · obtain ⟨P', y, rfl⟩ := snoc_ex hP
    rw [lastL_snoc] at hA
    have hy := okP y (by simp)
    have hpos := tx_pos hy
    rw [txs_app]
    have e : txs [y] = y.tok.tx := by simp [txs, Lx.tx]
    rw [e]
    rintro (q | ⟨W, c, q, h1, h2⟩)
    · rw [List.append_eq_nil_iff] at q
      rw [q.2] at hpos; simp at hpos
    · obtain ⟨V, d, hV⟩ := snoc_ex (l := y.tok.tx) (by intro q; rw [q] at hpos; simp at hpos)
      rw [hV, ← List.append_assoc] at q
      have hcd : d = c := by
        have := congrArg List.getLast? q
        simpa using this
      subst hcd
      have hm : d ∈ y.tok.tx := by rw [hV]; simp
      rcases hA.la rfl with ⟨s, rfl⟩ | rfl
      · have := of_decide_eq_true (List.all_eq_true.mp (nam_ch s hy) d hm)
        simp [alnum] at h1
        omega
      · have : d ∈ [41] := hm
        exact h2 (List.mem_singleton.mp this)
theorem step_piece {P r : List Lx} {x : Lx} {dp : Nat} (hT : T.length ≤ szL) (hasc : ∀ c ∈ T, c < 128) (hP : T = txs P ++ txs (x :: r)) (okP : AllOk P) (okx : TokOk x.tok) (hA : Adj (lastL (.o tLP) P) x) (hB : BalL dp (x :: r)) (S : Sto P dp prs ks ents) (hsz : P.length < szL) :
    ∃ w4 w5 w6 prs' ks' ents' dp', forN 4 (exs C N bodyP) x.tx.length (txs P).length (envP T false v4 v5 v6) (stoP prs ks ents) = .ok (.next, envP T false w4 w5 w6, stoP prs' ks' ents') ∧ Sto (P ++ [x]) dp' prs' ks' ents' ∧ BalL dp' r := by
  have hd : T.drop (txs P).length = x.tx ++ txs r := by rw [hP]; simp [txs]
  have plain : (∀ c ∈ x.tx, c ≠ 39 ∧ c ≠ 40 ∧ c ≠ 41 ∧ c ≠ 44) → BalL dp r → ∃ w4 w5 w6 prs' ks' ents' dp', forN 4 (exs C N bodyP) x.tx.length (txs P).length (envP T false v4 v5 v6) (stoP prs ks ents) = .ok (.next, envP T false w4 w5 w6, stoP prs' ks' ents') ∧ Sto (P ++ [x]) dp' prs' ks' ents' ∧ BalL dp' r := fun hc hb => by
    obtain ⟨w4, e⟩ := r_plain (C := C) (N := N) (σ := stoP prs ks ents) (v5 := v5) (v6 := v6) hT x.tx (txs P).length v4 hd hc
    exact ⟨w4, v5, v6, prs, ks, ents, dp, e, S.app [x], hb⟩
  have hsz2 := S.hsz
  have lp : x.tok = .op tLP → ∃ w4 w5 w6 prs' ks' ents' dp', forN 4 (exs C N bodyP) x.tx.length (txs P).length (envP T false v4 v5 v6) (stoP prs ks ents) = .ok (.next, envP T false w4 w5 w6, stoP prs' ks' ents') ∧ Sto (P ++ [x]) dp' prs' ks' ents' ∧ BalL dp' r := by
    intro hx
    obtain ⟨fl, e1, e2⟩ := flag_ex (C := C) (σ := stoP prs ks ents) (v5 := v5) (v6 := v6) hT hasc hP
    have hx' : x.tx = [40] := by unfold Lx.tx; rw [hx]; rfl
    rw [hx'] at hd ⊢
    have := p_lp (C := C) (N := N) (v4 := v4) hT hd e1 (by omega)
    refine ⟨_, _, _, _, _, _, dp + 1, forN_one this, ⟨fun p hp => (S.hprs p hp).app [x], fun k hk => ?_, ?_, ?_⟩, (balL_lp hx).mp hB⟩
    · rcases List.mem_append.mp hk with hk | hk
      · obtain ⟨pos, f, h1, h2⟩ := S.hks k hk
        refine ⟨pos, f, ?_, h2.app [x]⟩
        rw [List.getElem?_append_left (List.getElem?_eq_some_iff.mp h1).1]
        exact h1
      · rw [List.mem_singleton.mp hk]
        refine ⟨(txs P).length, fl, by simp, P, x, [], rfl, hx, rfl, fun q => ?_⟩
        match x, hx with
        | .t (.op s), hx => cases hx; rfl
        | .lpA, _ => exact absurd (e2 q) (no_lpA okP hA)
    · rw [List.length_append, S.hdp]; rfl
    · simp only [List.length_append, List.length_singleton]; omega
  match x, hd, plain, lp, okx, hB with
  | .lpA, hd, plain, lp, okx, hB => exact lp rfl
  | .t (.op s), hd, plain, lp, okx, hB =>
    by_cases h1 : s = tLP
    · subst h1; exact lp rfl
    · by_cases h2 : s = tRP
      · subst h2
        obtain ⟨j, hj, hB2⟩ := balL_rp.mp hB
        subst hj
        have hne : ks ≠ [] := by
          intro q
          have := S.hdp
          rw [q] at this; simp at this
        obtain ⟨ks, k, rfl⟩ := snoc_ex hne
        obtain ⟨pos, fl, g1, g2⟩ := S.hks k (by simp)
        rw [List.length_append, List.length_singleton] at hsz2
        obtain ⟨w5, w6, e⟩ := p_rp (C := C) (N := N) (v4 := v4) (v5 := v5) (v6 := v6) (prs := prs) (ks := ks) hT hd g1 (by omega)
        refine ⟨_, w5, w6, _, ks, ents, j, forN_one e, ⟨fun p hp => ?_, fun k' hk => ?_, ?_, ?_⟩, hB2⟩
        · cases fl with
          | false => exact (S.hprs p hp).app _
          | true =>
            rcases List.mem_append.mp (show p ∈ prs ++ [(pos, (txs P).length)] from hp) with q | q
            · exact (S.hprs p q).app _
            · rw [List.mem_singleton.mp q]
              obtain ⟨A, x, B, rfl, hx, hpos, hfl⟩ := g2
              have := hfl rfl
              subst this
              exact ⟨A, B, [], by simp, hpos, rfl⟩
        · obtain ⟨pos', f, h1, h2⟩ := S.hks k' (List.mem_append_left _ hk)
          exact ⟨pos', f, h1, h2.app _⟩
        · have := S.hdp
          rw [List.length_append, List.length_singleton] at this; omega
        · rw [List.length_append, List.length_singleton]
          split
          · rw [List.length_append, List.length_singleton]; omega
          · omega
      · by_cases h3 : s = tCM
        · subst h3
          have hB := (balL_op (by decide) (by decide)).mp hB
          by_cases hk : ks = []
          · subst hk
            exact ⟨_, _, _, prs, [], ents, dp, forN_one (p_cm0 (C := C) (N := N) (v4 := v4) (v5 := v5) (v6 := v6) hT hd), S.app _, hB⟩
          · obtain ⟨ks, k, rfl⟩ := snoc_ex hk
            obtain ⟨pos, fl, g1, g2⟩ := S.hks k (by simp)
            refine ⟨_, _, _, prs, ks ++ [k], _, dp, forN_one (p_cm (C := C) (N := N) (v4 := v4) (v5 := v5) (v6 := v6) (prs := prs) (ks := ks) hT hd g1), ⟨fun p hp => (S.hprs p hp).app _, fun k' hk' => ?_, S.hdp, by have := S.hsz; rw [List.length_append (as := P)]; omega⟩, hB⟩
            by_cases hkk : k' = k
            · subst hkk
              refine ⟨pos, false, ?_, ?_⟩
              · rw [List.getElem?_set_self (List.getElem?_eq_some_iff.mp g1).1]
              · obtain ⟨A, x, B, q1, q2, q3, _⟩ := g2
                exact (show OpOk P pos false from ⟨A, x, B, q1, q2, q3, nofun⟩).app _
            · obtain ⟨pos', f, q1, q2⟩ := S.hks k' hk'
              refine ⟨pos', f, ?_, q2.app _⟩
              rw [List.getElem?_set_ne (fun e => hkk e.symm)]
              exact q1
        · exact plain (fun c hc => of_decide_eq_true (List.all_eq_true.mp (op_ch s (List.mem_append.mpr okx) h1 h2 h3) c hc)) ((balL_op h1 h2).mp hB)
  | .t (.chr s), hd, plain, lp, okx, hB =>
    obtain ⟨w4, e⟩ := r_chr (C := C) (N := N) (σ := stoP prs ks ents) (v4 := v4) (v5 := v5) (v6 := v6) hT hd
    exact ⟨w4, v5, v6, prs, ks, ents, dp, e, S.app _, hB⟩
  | .t (.int v), hd, plain, lp, okx, hB => exact plain (fun c hc => by have := val_ch okx rfl nofun c hc; omega) hB
  | .t (.real m e), hd, plain, lp, okx, hB => exact plain (fun c hc => by have := val_ch okx rfl nofun c hc; omega) hB
  | .t (.dble m e), hd, plain, lp, okx, hB => exact plain (fun c hc => by have := val_ch okx rfl nofun c hc; omega) hB
  | .t (.log b), hd, plain, lp, okx, hB => exact plain (fun c hc => by have := val_ch okx rfl nofun c hc; omega) hB
  | .t (.nam s), hd, plain, lp, okx, hB => exact plain (fun c hc => by have := val_ch okx rfl nofun c hc; omega) hB
end
section
variable {C : Nat → List PV → Store → Out (PV × Store)} {N : Nat} {T : List Nat}
theorem all_pieces (hT : T.length ≤ szL) (hasc : ∀ c ∈ T, c < 128) : ∀ (xs P : List Lx) (dp : Nat) (prs : List (Nat × Nat)) (ks : List Nat) (ents : Store) (v4 v5 v6 : Option PV), T = txs P ++ txs xs → AllOk P → AllOk xs → ChF Adj (lastL (.o tLP) P) xs → BalL dp xs → Sto P dp prs ks ents → P.length + xs.length < szL →
    ∃ w4 w5 w6 prs' ks' ents' dp', forN 4 (exs C N bodyP) (txs xs).length (txs P).length (envP T false v4 v5 v6) (stoP prs ks ents) = .ok (.next, envP T false w4 w5 w6, stoP prs' ks' ents') ∧ Sto (P ++ xs) dp' prs' ks' ents'
  | [], P, dp, prs, ks, ents, v4, v5, v6, _, _, _, _, _, S, _ => ⟨v4, v5, v6, prs, ks, ents, dp, rfl, S.app []⟩
  | x :: r, P, dp, prs, ks, ents, v4, v5, v6, hP, okP, ok, hC, hB, S, hsz => by
    rw [List.length_cons] at hsz
    obtain ⟨w4, w5, w6, prs1, ks1, ents1, dp1, e1, S1, hB1⟩ := step_piece (C := C) (N := N) (v4 := v4) (v5 := v5) (v6 := v6) hT hasc hP okP (ok x (.head _)) hC.1 hB S (by omega)
    obtain ⟨u4, u5, u6, prs2, ks2, ents2, dp2, e2, S2⟩ := all_pieces hT hasc r (P ++ [x]) dp1 prs1 ks1 ents1 w4 w5 w6 (by rw [hP, txs_app]; simp [txs]) (okP.app (AllOk.one (ok x (.head _)))) (fun y hy => ok y (.tail _ hy)) (by rw [lastL_snoc]; exact hC.2) hB1 S1 (by rw [List.length_append, List.length_singleton]; omega)
    refine ⟨u4, u5, u6, prs2, ks2, ents2, dp2, ?_, by rw [List.append_assoc] at S2; exact S2⟩
    rw [show (txs (x :: r)).length = x.tx.length + (txs r).length by simp [txs], forN_app e1]
    rw [show (((txs P).length : Nat) : Int) + ((x.tx.length : Nat) : Int) = (((txs (P ++ [x])).length : Nat) : Int) by rw [txs_app]; simp [txs]]
    exact e2
end
theorem pairs_nl (prs : List (Nat × Nat)) : noLocs (pairsV prs) = true := by
  induction prs with
  | nil => rfl
  | cons p r ih => show noLocs (_ :: pairsV r) = true; simp [noLocs, noLoc, ih]
/-- the pairs of a printed tree's text -/
theorem k_pairs {N d : Nat} {xs : List Lx} (ok : AllOk xs) (hC : ChF Adj (.o tLP) xs) (hB : BalL 0 xs) (hx : Lexb xs) (hT : (txs xs).length < szL) : ∃ prs, callP N (d + 1) 52 [.str (txs xs)] [] = .ok (.list (pairsV prs), []) ∧ prs.length ≤ xs.length ∧ ∀ p ∈ prs, PrOk xs p := by
  have hl := lexb_len hx
  obtain ⟨w4, w5, w6, prs, ks, ents, dp, e, S⟩ := all_pieces (C := callP N d) (N := N) (T := txs xs) (by omega) (txs_asc ok) xs [] 0 [] [] [] none none none rfl AllOk.nil ok hC hB ⟨(fun _ h => nomatch h), (fun _ h => nomatch h), rfl, Nat.zero_le _⟩ (by simp; omega)
  refine ⟨prs, ?_, by have := S.hsz; simp at this; omega, S.hprs⟩
  rw [callP_plain (f := c52) rfl, runFD_args (env := [some (.str (txs xs)), none, none, none, none, none, none]) rfl rfl]
  unfold c52
  rw [exs_next (env' := [some (.str (txs xs)), some (.loc 0), none, none, none, none, none]) (σ' := [[]]) (by simp only [eg]; rfl)]
  rw [exs_next (env' := [some (.str (txs xs)), some (.loc 0), some (.loc 1), none, none, none, none]) (σ' := [[], []]) (by simp only [eg]; rfl)]
  rw [exs_next (env' := envP (txs xs) false none none none) (σ' := stoP [] [] []) (by simp only [eg]; rfl)]
  have hn0 : (((txs ([] : List Lx)).length : Nat) : Int) = 0 := rfl
  rw [hn0] at e
  have hc : (((txs xs).length : Int) - 0).toNat = (txs xs).length := by omega
  unfold bodyP at e
  rw [exs_next (by
    rw [ex_forr2 (x := 0) (y := (txs xs).length) (σ1 := stoP [] [] []) (σ2 := stoP [] [] []) rfl (by unfold envP; simp only [eg, len_at (Nat.le_of_lt hT)]) (by decide) (nab (Nat.le_of_lt hT)), hc]
    exact e)]
  rw [exs_ret (v := .loc 0) (env' := envP (txs xs) false w4 w5 w6) (σ' := stoP prs ks ents) (by unfold envP; simp only [eg])]
  show leaveP 0 (.ret (.loc 0)) (stoP prs ks ents) = _
  have ef : freeze 0 (stoP prs ks ents) (.loc 0) = some (.list (pairsV prs)) := by
    unfold freeze
    rw [if_pos (Nat.le_refl _), sto0]
    simp only [pairs_nl, if_true]
  simp only [leaveP, flP, ef]
  rfl
end Mine
namespace Mine
/-! the printer -/
section
variable {N d : Nat} {σ : Store}
theorem ix0 {a : PV} {l : List PV} : idxP σ (.tup (a :: l)) (.int 0) = some a := by
  simp [idxP, pyIdx]
theorem ix1 {a b : PV} {l : List PV} : idxP σ (.tup (a :: b :: l)) (.int 1) = some b := by
  simp [idxP, pyIdx]
theorem ix2 {a b c : PV} {l : List PV} : idxP σ (.tup (a :: b :: c :: l)) (.int 2) = some c := by
  simp [idxP, pyIdx]
theorem ix3 {a b c e : PV} {l : List PV} : idxP σ (.tup (a :: b :: c :: e :: l)) (.int 3) = some e := by
  simp [idxP, pyIdx]
theorem szL_ge : 1000000 ≤ szL := by decide
theorem add_s {a b : List Nat} (h : a.length + b.length ≤ 1000000) : binP .add (.str a) (.str b) = some (.str (a ++ b)) := add_str (Nat.le_trans h szL_ge)
theorem str_i {i : Int} (h : i.natAbs < 10 ^ 100) : biP σ .str [.int i] = some (.str (intText i)) := by
  simp only [biP, h, if_true]
theorem k_zeros {i : Int} (hi : i ≤ 1000) : callP N (d + 1) 10 [.int i] [] = .ok (.str (zerosL i.toNat), []) := by
  rw [callP_plain (f := c10) rfl, runFD_args (env := [some (.int i)]) rfl rfl]
  unfold c10
  have h1 : biP [] .max [.int i, .int 0] = some (.int (max i 0)) := rfl
  have h2 : binP .mul (.str [48]) (.int (max i 0)) = some (.str (zerosL i.toNat)) := by
    have : 0 ≤ max i 0 ∧ max i 0 ≤ 1000 := by omega
    simp only [binP, this, and_self, if_true, zerosL]
    congr 3; omega
  rw [exs_ret (v := .str (zerosL i.toNat)) (env' := [some (.int i)]) (σ' := []) (by simp only [eg, h1, h2])]
  exact leave_nl (σ := []) (v := .str _) rfl rfl
theorem cut_to {s : List Nat} {e : Int} (hs : s.length ≤ szL) (he : e < 0) : cutP (.str s) .none (.int e) = some (.str (s.take (s.length - (-e).toNat))) := by
  have hb : bnd e s.length = s.length - (-e).toNat := by unfold bnd; rw [if_neg (by omega)]; omega
  simp only [cutP, hs, if_true, boundP, Option.bind_some, Option.map_some, lowOf, highOf, hb, cutL, List.drop_zero]
theorem cut_from {s : List Nat} {e : Int} (hs : s.length ≤ szL) (he : e < 0) : cutP (.str s) (.int e) .none = some (.str (s.drop (s.length - (-e).toNat))) := by
  have hb : bnd e s.length = s.length - (-e).toNat := by unfold bnd; rw [if_neg (by omega)]; omega
  simp only [cutP, hs, if_true, boundP, Option.bind_some, Option.map_some, lowOf, highOf, hb, cutL, List.take_length]
theorem k_showPair {m : Nat} {e : Int} {c : Nat} (hp : PairOk m e) : callP N (d + 2) 11 [.tup [.int m, .int e], .str [c]] [] = .ok (.str (showPair m e c), []) := by
  rw [callP_plain (f := c11) rfl, runFD_args (env := [some (.tup [.int m, .int e]), some (.str [c]), none, none, none]) rfl rfl]
  unfold c11 showPair
  obtain ⟨p1, p2, p3, p4, p5⟩ := hp
  have hdl : (dg m).length ≤ 4 := dg_len m 3 (by omega)
  have hd1 := dg_pos m
  have hs : biP [] .str [.int m] = some (.str (intText m)) := str_i (by simp only [Int.natAbs_natCast]; exact Nat.lt_trans p1 (by decide))
  have hs2 : biP [] .str [.int e] = some (.str (intText e)) := str_i (Nat.lt_of_le_of_lt (show e.natAbs ≤ 24 by omega) (by decide))
  have hel : (intText e).length ≤ 3 := by
    rw [(intText_sgn e).1, List.length_append]
    have h1 : (dg e.natAbs).length ≤ 2 := dg_len _ 1 (by omega)
    have h2 : (sgn (decide (e < 0))).length ≤ 1 := by cases decide (e < 0) <;> decide
    omega
  rw [intText_nat] at hs ⊢
  rw [exs_next (env' := [some (.tup [.int m, .int e]), some (.str [c]), some (.int m), some (.int e), none]) (σ' := []) (by simp only [eg])]
  rw [exs_next (env' := [some (.tup [.int m, .int e]), some (.str [c]), some (.int m), some (.int e), some (.str (dg m))]) (σ' := []) (by simp only [eg, hs])]
  have ec : (([c] : List Nat) = [68]) = (c = 68) := by simp
  have e12 : (-12 : Int) = -12 := rfl
  have hneg : ∀ σ, (ev (callP N (d + 1)) (.neg (.cst (.int 12)))).1 [some (.tup [.int m, .int e]), some (.str [c]), some (.int m), some (.int e), some (.str (dg m))] σ = .ok (.int (-12), σ) := fun _ => rfl
  have ht : (ev (callP N (d + 1)) (.bool false (.cons (.cmp .eq (.var 1) (.cst (.str [68]))) (.cons (.cmp .gt (.var 3) (.cst (.int 0))) (.cons (.cmp .lt (.var 3) (.neg (.cst (.int 12)))) .nil))))).2 [some (.tup [.int m, .int e]), some (.str [c]), some (.int m), some (.int e), some (.str (dg m))] [] = .ok (decide (c = 68 ∨ 0 < e ∨ e < -12), []) := by
    by_cases h1 : c = 68
    · simp only [eg, ec, h1, true_or]
    · by_cases h2 : 0 < e
      · simp only [eg, ec, h1, h2, true_or, or_true]
      · by_cases h3 : e < -12
        · simp only [eg, ec, h1, h2, h3, or_true]
        · simp only [eg, ec, h1, h2, h3, or_self]
  by_cases hA : c = 68 ∨ 0 < e ∨ e < -12
  · rw [if_pos hA]
    rw [decide_eq_true hA] at ht
    have a1 := add_s (a := dg m) (b := [46]) (by simp; omega)
    have a2 := add_s (a := dg m ++ [46]) (b := [c]) (by simp; omega)
    have a3 := add_s (a := dg m ++ [46] ++ [c]) (b := intText e) (by simp; omega)
    rw [exs_ret (v := .str (dg m ++ [46] ++ [c] ++ intText e)) (env' := [some (.tup [.int m, .int e]), some (.str [c]), some (.int m), some (.int e), some (.str (dg m))]) (σ' := []) (by rw [ex_iff, ht, ok_bind]; simp only [eg, a1, a2, a3, hs2])]
    exact leave_nl (σ := []) (v := .str _) rfl rfl
  · rw [if_neg hA]
    rw [decide_eq_false hA] at ht
    rw [exs_next (env' := [some (.tup [.int m, .int e]), some (.str [c]), some (.int m), some (.int e), some (.str (dg m))]) (σ' := []) (by rw [ex_iff, ht, ok_bind]; simp only [eg])]
    by_cases hB : e = 0
    · rw [if_pos hB]
      have a1 := add_s (a := dg m) (b := [46]) (by simp; omega)
      rw [exs_ret (v := .str (dg m ++ [46])) (env' := [some (.tup [.int m, .int e]), some (.str [c]), some (.int m), some (.int e), some (.str (dg m))]) (σ' := []) (by simp only [eg, a1, hB])]
      exact leave_nl (σ := []) (v := .str _) rfl rfl
    · rw [if_neg hB]
      rw [exs_next (env' := [some (.tup [.int m, .int e]), some (.str [c]), some (.int m), some (.int e), some (.str (dg m))]) (σ' := []) (by simp only [eg, hB])]
      have hneg : e < 0 := by omega
      have hlen : biP [] .len [.str (dg m)] = some (.int (dg m).length) := len_at (Nat.le_trans (by omega : (dg m).length ≤ 1000000) szL_ge)
      have hle : (((dg m).length : Int) ≤ -e) = ((dg m).length ≤ (-e).toNat) := by simp only [eq_iff_iff]; omega
      by_cases hC : (dg m).length ≤ (-e).toNat
      · rw [if_pos hC]
        have hz := k_zeros (N := N) (d := d) (i := -e - (dg m).length) (by omega)
        have hzn : (-e - ((dg m).length : Int)).toNat = (-e).toNat - (dg m).length := by omega
        rw [hzn] at hz
        have hzl : (zerosL ((-e).toNat - (dg m).length)).length ≤ 20 := by simp [zerosL]; omega
        generalize zerosL ((-e).toNat - (dg m).length) = z at *
        have a1 := add_s (a := [46]) (b := z) (by simp; omega)
        have a2 := add_s (a := [46] ++ z) (b := dg m) (by simp; omega)
        rw [exs_ret (v := .str ([46] ++ z ++ dg m)) (env' := [some (.tup [.int m, .int e]), some (.str [c]), some (.int m), some (.int e), some (.str (dg m))]) (σ' := []) (by simp only [eg, hlen, hle, hC, hz, a1, a2])]
        exact leave_nl (σ := []) (v := .str _) rfl rfl
      · rw [if_neg hC]
        rw [exs_next (env' := [some (.tup [.int m, .int e]), some (.str [c]), some (.int m), some (.int e), some (.str (dg m))]) (σ' := []) (by simp only [eg, hlen, hle, hC])]
        have hsz : (dg m).length ≤ szL := Nat.le_trans (by omega : (dg m).length ≤ 1000000) szL_ge
        have c1 := cut_to hsz hneg
        have c2 := cut_from hsz hneg
        have l1 : ((dg m).take ((dg m).length - (-e).toNat)).length ≤ 4 := by rw [List.length_take]; omega
        have l2 : ((dg m).drop ((dg m).length - (-e).toNat)).length ≤ 4 := by rw [List.length_drop]; omega
        generalize (dg m).take ((dg m).length - (-e).toNat) = x at *
        generalize (dg m).drop ((dg m).length - (-e).toNat) = y at *
        have a1 := add_s (a := x) (b := [46]) (by simp; omega)
        have a2 := add_s (a := x ++ [46]) (b := y) (by simp; omega)
        rw [exs_ret (v := .str (x ++ [46] ++ y)) (env' := [some (.tup [.int m, .int e]), some (.str [c]), some (.int m), some (.int e), some (.str (dg m))]) (σ' := []) (by simp only [eg, c1, c2, a1, a2])]
        exact leave_nl (σ := []) (v := .str _) rfl rfl
theorem showPair_len {m : Nat} {e : Int} {c : Nat} (hp : PairOk m e) : (showPair m e c).length ≤ 40 := by
  obtain ⟨p1, p2, p3, p4, p5⟩ := hp
  have hdl : (dg m).length ≤ 4 := dg_len m 3 (by omega)
  have hel : (intText e).length ≤ 3 := by
    rw [(intText_sgn e).1, List.length_append]
    have h1 : (dg e.natAbs).length ≤ 2 := dg_len _ 1 (by omega)
    have h2 : (sgn (decide (e < 0))).length ≤ 1 := by cases decide (e < 0) <;> decide
    omega
  unfold showPair
  rw [intText_nat]
  split
  · simp; omega
  · split
    · simp; omega
    · split
      · simp [zerosL]; omega
      · simp; omega
/-- a number, with its sign -/
def sg (i : Int) : List Nat := if i < 0 then [45] else []
theorem k_numInt {i : Int} (hi : i.natAbs < 10 ^ 100) (hl : (intText (i.natAbs : Int)).length ≤ 1000) : callP N (d + 1) 16 [.tup [.str [105, 110, 116], .int i]] [] = .ok (.str (sg i ++ intText (i.natAbs : Int)), []) := by
  rw [callP_plain (f := c16) rfl, runFD_args (env := [some (.tup [.str [105, 110, 116], .int i]), none]) rfl rfl]
  unfold c16
  have hs : biP [] .str [.int (i.natAbs : Int)] = some (.str (intText (i.natAbs : Int))) := str_i (by simpa using hi)
  have ha : biP [] .abs [.int i] = some (.int i.natAbs) := rfl
  have a1 := add_s (a := sg i) (b := intText (i.natAbs : Int)) (by unfold sg; split <;> simp <;> omega)
  rw [exs_next (env' := [some (.tup [.str [105, 110, 116], .int i]), some (.str [])]) (σ' := []) (by simp only [eg])]
  rw [exs_next (env' := [some (.tup [.str [105, 110, 116], .int i]), some (.str (sg i))]) (σ' := []) (by
    unfold sg
    by_cases h : i < 0
    · simp only [eg, ix1, h]
    · simp only [eg, ix1, h])]
  rw [exs_ret (v := .str (sg i ++ intText (i.natAbs : Int))) (env' := [some (.tup [.str [105, 110, 116], .int i]), some (.str (sg i))]) (σ' := []) (by simp only [eg, ix0, ix1, ha, hs, a1])]
  exact leave_nl (σ := []) (v := .str _) rfl rfl
theorem k_numReal {m e : Int} (hp : PairOk m.natAbs e) : callP N (d + 3) 16 [.tup [.str [114, 101, 97, 108], .int m, .int e]] [] = .ok (.str (sg m ++ showPair m.natAbs e 69), []) := by
  rw [callP_plain (f := c16) rfl, runFD_args (env := [some (.tup [.str [114, 101, 97, 108], .int m, .int e]), none]) rfl rfl]
  unfold c16
  have ha : biP [] .abs [.int m] = some (.int m.natAbs) := rfl
  have hk := k_showPair (N := N) (d := d) (c := 69) hp
  have hl := showPair_len (c := 69) hp
  have a1 := add_s (a := sg m) (b := showPair m.natAbs e 69) (by unfold sg; split <;> simp <;> omega)
  rw [exs_next (env' := [some (.tup [.str [114, 101, 97, 108], .int m, .int e]), some (.str [])]) (σ' := []) (by simp only [eg])]
  rw [exs_next (env' := [some (.tup [.str [114, 101, 97, 108], .int m, .int e]), some (.str (sg m))]) (σ' := []) (by
    unfold sg
    by_cases h : m < 0
    · simp only [eg, ix1, h]
    · simp only [eg, ix1, h])]
  rw [exs_next (env' := [some (.tup [.str [114, 101, 97, 108], .int m, .int e]), some (.str (sg m))]) (σ' := []) (by simp (decide := true) only [eg, ix0])]
  rw [exs_ret (v := .str (sg m ++ showPair m.natAbs e 69)) (env' := [some (.tup [.str [114, 101, 97, 108], .int m, .int e]), some (.str (sg m))]) (σ' := []) (by simp (decide := true) only [eg, ix0, ix1, ix2, ha, hk, a1])]
  exact leave_nl (σ := []) (v := .str _) rfl rfl
theorem k_numDble {m e : Int} (hp : PairOk m.natAbs e) : callP N (d + 3) 16 [.tup [.str [100, 98, 108, 101], .int m, .int e]] [] = .ok (.str (sg m ++ showPair m.natAbs e 68), []) := by
  rw [callP_plain (f := c16) rfl, runFD_args (env := [some (.tup [.str [100, 98, 108, 101], .int m, .int e]), none]) rfl rfl]
  unfold c16
  have ha : biP [] .abs [.int m] = some (.int m.natAbs) := rfl
  have hk := k_showPair (N := N) (d := d) (c := 68) hp
  have hl := showPair_len (c := 68) hp
  have a1 := add_s (a := sg m) (b := showPair m.natAbs e 68) (by unfold sg; split <;> simp <;> omega)
  rw [exs_next (env' := [some (.tup [.str [100, 98, 108, 101], .int m, .int e]), some (.str [])]) (σ' := []) (by simp only [eg])]
  rw [exs_next (env' := [some (.tup [.str [100, 98, 108, 101], .int m, .int e]), some (.str (sg m))]) (σ' := []) (by
    unfold sg
    by_cases h : m < 0
    · simp only [eg, ix1, h]
    · simp only [eg, ix1, h])]
  rw [exs_next (env' := [some (.tup [.str [100, 98, 108, 101], .int m, .int e]), some (.str (sg m))]) (σ' := []) (by simp (decide := true) only [eg, ix0])]
  rw [exs_ret (v := .str (sg m ++ showPair m.natAbs e 68)) (env' := [some (.tup [.str [100, 98, 108, 101], .int m, .int e]), some (.str (sg m))]) (σ' := []) (by simp (decide := true) only [eg, ix0, ix1, ix2, ha, hk, a1])]
  exact leave_nl (σ := []) (v := .str _) rfl rfl
theorem k_num {a : Num} (h : NumOk a) : callP N (d + 3) 16 [a.pv] [] = .ok (.str (txs a.lx), []) ∧ (txs a.lx).length ≤ 100 := by
  cases a with
  | int i =>
    have h : i.natAbs < 30 := h
    have hl : (intText (i.natAbs : Int)).length ≤ 2 := by rw [intText_nat]; exact dg_len _ 1 (by omega)
    have e : txs (Num.int i).lx = sg i ++ intText (i.natAbs : Int) := by
      simp only [Num.lx, sg]
      split <;> simp [txs, Lx.tx, Lx.tok, Tok.tx]
    rw [e]
    refine ⟨k_numInt (d := d + 2) (Nat.lt_trans h (by decide)) (by omega), ?_⟩
    unfold sg; split <;> simp <;> omega
  | real m e' =>
    have hl := showPair_len (c := 69) (show PairOk m.natAbs e' from h)
    have e : txs (Num.real m e').lx = sg m ++ showPair m.natAbs e' 69 := by
      simp only [Num.lx, sg]
      split <;> simp [txs, Lx.tx, Lx.tok, Tok.tx]
    rw [e]
    refine ⟨k_numReal h, ?_⟩
    unfold sg; split <;> simp <;> omega
theorem k_text {s : List Nat} (hs : s.length ≤ 100000) : callP N (d + 1) 12 [.str s] [] = .ok (.str (Tok.chr s).tx, []) := by
  conv => lhs; unfold callP
  rw [if_pos rfl]
  unfold showP
  dsimp only
  unfold showX
  rw [show ([some (PV.str s)] : Env').getD 0 none = some (.str s) from rfl]
  dsimp only
  rw [if_pos hs, ok_bind]
  exact leave_nl (σ := []) (v := .str _) rfl rfl
end
end Mine
namespace Mine
section
variable {N d : Nat}
theorem ret17 {t : PV} {tag : List Nat} {l : List PV} {s : List Nat} (ht : t = .tup (.str tag :: l)) (h1 : tag ≠ [99, 104, 97, 114]) (h2 : tag ≠ [108, 111, 103]) (h3 : tag ≠ [99, 112, 108, 120]) (hk : callP N d 16 [t] [] = .ok (.str s, [])) : callP N (d + 1) 17 [t] [] = .ok (.str s, []) := by
  rw [callP_plain (f := c17) rfl, runFD_args (env := [some t]) rfl rfl]
  unfold c17
  subst ht
  rw [exs_next (env' := [some (.tup (.str tag :: l))]) (σ' := []) (by simp only [eg, ix0, h1])]
  rw [exs_next (env' := [some (.tup (.str tag :: l))]) (σ' := []) (by simp only [eg, ix0, h2])]
  rw [exs_next (env' := [some (.tup (.str tag :: l))]) (σ' := []) (by simp only [eg, ix0, h3])]
  rw [exs_ret (v := .str s) (env' := [some (.tup (.str tag :: l))]) (σ' := []) (by simp only [eg, hk])]
  exact leave_nl (σ := []) (v := .str _) rfl rfl
def IsConst : Tr → Prop
  | .int _ | .real _ _ | .dble _ _ | .log _ | .chr _ | .cplx _ _ => True
  | _ => False
theorem text_len : ∀ s ∈ textL, s.length ≤ 100000 := by decide
theorem k_const {t : Tr} (h : Ok t) (hc : IsConst t) : callP N (d + 4) 17 [t.pv] [] = .ok (.str (txs (lx t)), []) := by
  match t, h, hc with
  | .int i, h, _ =>
    unfold Ok at h
    have hl : (intText (i.natAbs : Int)).length ≤ 12 := by rw [intText_nat]; exact dg_len _ 11 (by omega)
    have hk := k_numInt (N := N) (d := d + 2) (i := i) (Nat.lt_trans (show i.natAbs < 10 ^ 13 by omega) (by decide)) (by omega)
    have e : txs (lx (.int i)) = sg i ++ intText (i.natAbs : Int) := by
      unfold sg
      rw [if_neg (by omega), show i.natAbs = i.toNat by omega]
      simp [lx, txs, Lx.tx, Lx.tok, Tok.tx]
    rw [e]
    exact ret17 rfl (by decide) (by decide) (by decide) hk
  | .real m e, h, _ =>
    unfold Ok at h
    have hm : m.natAbs = m.toNat := by omega
    have hk := k_numReal (N := N) (d := d) (m := m) (e := e) (by rw [hm]; exact h.2)
    have e1 : txs (lx (.real m e)) = sg m ++ showPair m.natAbs e 69 := by
      unfold sg
      rw [if_neg (by omega), hm]
      simp [lx, txs, Lx.tx, Lx.tok, Tok.tx]
    rw [e1]
    exact ret17 rfl (by decide) (by decide) (by decide) hk
  | .dble m e, h, _ =>
    unfold Ok at h
    have hm : m.natAbs = m.toNat := by omega
    have hk := k_numDble (N := N) (d := d) (m := m) (e := e) (by rw [hm]; exact h.2)
    have e1 : txs (lx (.dble m e)) = sg m ++ showPair m.natAbs e 68 := by
      unfold sg
      rw [if_neg (by omega), hm]
      simp [lx, txs, Lx.tx, Lx.tok, Tok.tx]
    rw [e1]
    exact ret17 rfl (by decide) (by decide) (by decide) hk
  | .log b, h, _ =>
    rw [callP_plain (f := c17) rfl, runFD_args (env := [some (Tr.log b).pv]) rfl rfl]
    unfold c17 Tr.pv
    rw [exs_next (env' := [some (.tup [.str [108, 111, 103], .bool b])]) (σ' := []) (by simp (decide := true) only [eg, ix0])]
    cases b with
    | true =>
      rw [exs_ret (v := .str (txs (lx (.log true)))) (env' := [some (.tup [.str [108, 111, 103], .bool true])]) (σ' := []) (by simp (decide := true) only [eg, ix0, ix1]; rfl)]
      exact leave_nl (σ := []) (v := .str _) rfl rfl
    | false =>
      rw [exs_ret (v := .str (txs (lx (.log false)))) (env' := [some (.tup [.str [108, 111, 103], .bool false])]) (σ' := []) (by simp (decide := true) only [eg, ix0, ix1]; rfl)]
      exact leave_nl (σ := []) (v := .str _) rfl rfl
  | .chr s, h, _ =>
    rw [callP_plain (f := c17) rfl, runFD_args (env := [some (Tr.chr s).pv]) rfl rfl]
    unfold c17 Tr.pv
    have hk := k_text (N := N) (d := d + 2) (text_len s h)
    have e1 : txs (lx (.chr s)) = (Tok.chr s).tx := by simp [lx, txs, Lx.tx, Lx.tok]
    rw [e1]
    rw [exs_ret (v := .str (Tok.chr s).tx) (env' := [some (.tup [.str [99, 104, 97, 114], .str s])]) (σ' := []) (by simp (decide := true) only [eg, ix0, ix1, hk])]
    exact leave_nl (σ := []) (v := .str _) rfl rfl
  | .cplx a b, h, _ =>
    unfold Ok at h
    rw [callP_plain (f := c17) rfl, runFD_args (env := [some (Tr.cplx a b).pv]) rfl rfl]
    unfold c17 Tr.pv
    obtain ⟨k1, l1⟩ := k_num (N := N) (d := d) h.1
    obtain ⟨k2, l2⟩ := k_num (N := N) (d := d) h.2
    have e1 : txs (lx (.cplx a b)) = [40] ++ txs a.lx ++ [44] ++ txs b.lx ++ [41] := by
      rw [lx]
      simp [txs, txs_app, Lx.tx, Lx.tok, Tok.tx]
    rw [e1]
    generalize txs a.lx = x at *
    generalize txs b.lx = y at *
    have a1 := add_s (a := [40]) (b := x) (by simp; omega)
    have a2 := add_s (a := [40] ++ x) (b := [44]) (by simp; omega)
    have a3 := add_s (a := [40] ++ x ++ [44]) (b := y) (by simp; omega)
    have a4 := add_s (a := [40] ++ x ++ [44] ++ y) (b := [41]) (by simp; omega)
    rw [exs_next (env' := [some (.tup [.str [99, 112, 108, 120], a.pv, b.pv])]) (σ' := []) (by simp (decide := true) only [eg, ix0])]
    rw [exs_next (env' := [some (.tup [.str [99, 112, 108, 120], a.pv, b.pv])]) (σ' := []) (by simp (decide := true) only [eg, ix0])]
    rw [exs_ret (v := .str ([40] ++ x ++ [44] ++ y ++ [41])) (env' := [some (.tup [.str [99, 112, 108, 120], a.pv, b.pv])]) (σ' := []) (by simp (decide := true) only [eg, ix0, ix1, ix2, k1, k2, a1, a2, a3, a4])]
    exact leave_nl (σ := []) (v := .str _) rfl rfl
theorem binds_tab {σ : Store} {op : List Nat} (h : op ∈ opsL) : idxP σ (.tab 0) (.str op) = some (.tup [.int (prioS op), .int (leftB (prioS op)), .int (rightB (prioS op))]) := by
  simp only [opsL, List.mem_cons, List.not_mem_nil, or_false] at h
  rcases h with rfl | rfl | rfl | rfl | rfl | rfl | rfl | rfl | rfl | rfl | rfl | rfl | rfl <;> rfl
theorem unary_tab {σ : Store} {op : List Nat} (h : op = tNOT ∨ op = tPL ∨ op = tMI) : idxP σ (.tab 1) (.str op) = some (.tup [.int ((if op = tNOT then 4 else 7 : Nat) : Int), .int (unB op)]) := by
  rcases h with rfl | rfl | rfl <;> rfl
def tagT : Tr → List Nat
  | .bin _ _ _ => [98, 105, 110]
  | .un _ _ => [117, 110]
  | .nam _ => [110, 97, 109, 101]
  | .ref _ _ => [114, 101, 102]
  | .sub _ _ _ => [115, 117, 98]
  | .int _ => [105, 110, 116]
  | .real _ _ => [114, 101, 97, 108]
  | .dble _ _ => [100, 98, 108, 101]
  | .log _ => [108, 111, 103]
  | .chr _ => [99, 104, 97, 114]
  | .cplx _ _ => [99, 112, 108, 120]
theorem tag_pv (t : Tr) : ∃ l, t.pv = .tup (.str (tagT t) :: l) := by
  cases t <;> exact ⟨_, rfl⟩
theorem bind_prim {t : Tr} (h1 : tagT t ≠ [98, 105, 110]) (h2 : tagT t ≠ [117, 110]) : callP N (d + 1) 13 [t.pv] [] = .ok (.int 10, []) := by
  obtain ⟨l, e⟩ := tag_pv t
  rw [callP_plain (f := c13) rfl, runFD_args (env := [some t.pv]) rfl rfl]
  unfold c13
  rw [e]
  rw [exs_next (env' := [some (.tup (.str (tagT t) :: l))]) (σ' := []) (by simp only [eg, ix0, h1])]
  rw [exs_next (env' := [some (.tup (.str (tagT t) :: l))]) (σ' := []) (by simp only [eg, ix0, h2])]
  rw [exs_ret (v := .int 10) (env' := [some (.tup (.str (tagT t) :: l))]) (σ' := []) (by simp only [eg])]
  exact leave_nl (σ := []) (v := .int 10) rfl rfl
theorem k_binding {t : Tr} (h : Ok t) : callP N (d + 1) 13 [t.pv] [] = .ok (.int (bindT t), []) := by
  match t, h with
  | .bin op l r, h =>
    unfold Ok at h
    rw [callP_plain (f := c13) rfl, runFD_args (env := [some (Tr.bin op l r).pv]) rfl rfl]
    unfold c13 Tr.pv
    rw [exs_ret (v := .int (prioS op)) (env' := [some (.tup [.str [98, 105, 110], .str op, l.pv, r.pv])]) (σ' := []) (by simp only [eg, ix0, ix1, binds_tab h.1])]
    exact leave_nl (σ := []) (v := .int _) rfl rfl
  | .un op a, h =>
    unfold Ok at h
    rw [callP_plain (f := c13) rfl, runFD_args (env := [some (Tr.un op a).pv]) rfl rfl]
    unfold c13 Tr.pv
    rw [exs_next (env' := [some (.tup [.str [117, 110], .str op, a.pv])]) (σ' := []) (by simp (decide := true) only [eg, ix0])]
    have e : bindT (.un op a) = (if op = tNOT then 4 else 7) := rfl
    rw [e]
    rw [exs_ret (v := .int ((if op = tNOT then 4 else 7 : Nat) : Int)) (env' := [some (.tup [.str [117, 110], .str op, a.pv])]) (σ' := []) (by simp only [ix0, ix1, unary_tab h.1, ex_iff, tr_cmp, ev_cmp, ev_idx, ev_var, ev_cst, getD0, liftO_some, ok_bind, cmp_eqs, decide_true, Option.map_some, tr_b, exs_cons, ex_ret])]
    exact leave_nl (σ := []) (v := .int _) rfl rfl
  | .nam _, _ | .ref _ _, _ | .sub _ _ _, _ | .int _, _ | .real _ _, _ | .dble _ _, _ | .log _, _ | .chr _, _ | .cplx _ _, _ => exact bind_prim (by simp [tagT]) (by simp [tagT])
theorem txs_wrap (b : Bool) (l : List Lx) : txs (wrap b l) = if b then [40] ++ txs l ++ [41] else txs l := by
  cases b with
  | false => rfl
  | true =>
    show txs (.o tLP :: (l ++ [.o tRP])) = _
    simp [txs, txs_app, Lx.tx, Lx.tok, Tok.tx]
theorem k_within {t : Tr} (h : Ok t) {k : Nat} {s : List Nat} (hk : callP N (d + 1) 20 [t.pv] [] = .ok (.str s, [])) (hl : s.length ≤ 900000) : callP N (d + 2) 14 [t.pv, .int k] [] = .ok (.str (if bindT t < k then [40] ++ s ++ [41] else s), []) := by
  rw [callP_plain (f := c14) rfl, runFD_args (env := [some t.pv, some (.int k)]) rfl rfl]
  unfold c14
  have hb := k_binding (N := N) (d := d) h
  have a1 := add_s (a := [40]) (b := s) (by simp; omega)
  have a2 := add_s (a := [40] ++ s) (b := [41]) (by simp; omega)
  by_cases h1 : bindT t < k
  · rw [if_pos h1]
    rw [exs_ret (v := .str ([40] ++ s ++ [41])) (env' := [some t.pv, some (.int k)]) (σ' := []) (by simp only [eg, hb, h1, hk, a1, a2])]
    exact leave_nl (σ := []) (v := .str _) rfl rfl
  · rw [if_neg h1]
    rw [exs_next (env' := [some t.pv, some (.int k)]) (σ' := []) (by simp only [eg, hb, h1])]
    rw [exs_ret (v := .str s) (env' := [some t.pv, some (.int k)]) (σ' := []) (by simp only [eg, hk])]
    exact leave_nl (σ := []) (v := .str _) rfl rfl
mutual
def tall : Tr → Nat
  | .bin _ l r => max (tall l) (tall r) + 2
  | .un _ a => tall a + 2
  | .ref _ as => tallS as + 2
  | .sub b lo hi => max (tall b) (max (tallO lo) (tallO hi)) + 2
  | _ => 5
def tallO : TrO → Nat
  | .none => 5
  | .some t => tall t
def tallS : Trs → Nat
  | .nil => 5
  | .cons t r => max (tall t) (tallS r)
end
def rowS : Trs → List (List Nat)
  | .nil => []
  | .cons t r => txs (lx t) :: rowS r
theorem texts_str : ∀ l : List (List Nat), texts (l.map PV.str) = some l
  | [] => rfl
  | x :: l => by rw [List.map_cons, texts, texts_str l]; rfl
theorem join_rowT : ∀ (r : Trs) (x : List Nat), joinL (x :: rowS r) = x ++ txs (rowT r)
  | .nil, x => by simp [rowS, joinL, rowT, txs]
  | .cons t r, x => by
    rw [rowS, joinL, join_rowT r (txs (lx t)), rowT]
    · simp [txs, txs_app, Lx.tx, Lx.tok, Tok.tx]
    · nofun
theorem join_row (as : Trs) : joinL (rowS as) = txs (row as) := by
  cases as with
  | nil => rfl
  | cons t r => rw [rowS, join_rowT, row, txs_app]
theorem sum_rowT : ∀ (r : Trs), ((rowS r).map List.length).sum + (rowS r).length = (txs (rowT r)).length
  | .nil => rfl
  | .cons t r => by
    have := sum_rowT r
    rw [rowS, rowT, List.map_cons, List.sum_cons, List.length_cons]
    simp only [txs, txs_app, List.length_append, Lx.tx, Lx.tok, Tok.tx, List.length_cons, List.length_nil]
    omega
theorem sum_row (as : Trs) : ((rowS as).map List.length).sum + (rowS as).length ≤ (txs (row as)).length + 1 := by
  cases as with
  | nil => exact Nat.zero_le _
  | cons t r =>
    have := sum_rowT r
    rw [rowS, row, List.map_cons, List.sum_cons, List.length_cons, txs_app, List.length_append]
    omega
theorem k_row {as : Trs} (hk : mapC (fun a σ => callP N d 20 [a] σ) as.pvs [] = .ok ((rowS as).map PV.str, [])) (hl : (txs (row as)).length ≤ 900000) : callP N (d + 1) 15 [.list as.pvs] [] = .ok (.str (txs (row as)), []) := by
  conv => lhs; unfold callP
  rw [if_neg (by decide), if_pos rfl]
  unfold rowP
  dsimp only
  unfold rowX
  rw [show ([some (PV.list as.pvs)] : Env').getD 0 none = some (.list as.pvs) from rfl]
  dsimp only
  rw [hk]
  dsimp only
  unfold joinP
  rw [texts_str, Option.bind_some, if_pos (by have := sum_row as; omega), join_row]
  dsimp only
  rw [ok_bind]
  exact leave_nl (σ := []) (v := .str _) rfl rfl
theorem k_part {o : TrO} {s : List Nat} (hk : ∀ t, o = .some t → callP N d 20 [t.pv] [] = .ok (.str s, [])) (hs : o = .none → s = []) : callP N (d + 1) 18 [o.pv] [] = .ok (.str s, []) := by
  rw [callP_plain (f := c18) rfl, runFD_args (env := [some o.pv]) rfl rfl]
  unfold c18
  cases o with
  | none =>
    have hc : cmpP .is .none .none = some true := rfl
    rw [hs rfl]
    rw [exs_ret (v := .str []) (env' := [some TrO.none.pv]) (σ' := []) (by simp only [TrO.pv, eg, hc])]
    exact leave_nl (σ := []) (v := .str _) rfl rfl
  | some t =>
    obtain ⟨l, e⟩ := tag_pv t
    have hk := hk t rfl
    have hc : cmpP .is t.pv .none = some false := by rw [e]; rfl
    rw [exs_next (env' := [some t.pv]) (σ' := []) (by simp only [TrO.pv, eg, hc])]
    rw [exs_ret (v := .str s) (env' := [some t.pv]) (σ' := []) (by simp only [eg, hk])]
    exact leave_nl (σ := []) (v := .str _) rfl rfl
end
end Mine
namespace Mine
theorem tall_ge : ∀ t : Tr, 5 ≤ tall t
  | .bin _ l _ => by have := tall_ge l; rw [tall]; omega
  | .un _ a => by have := tall_ge a; rw [tall]; omega
  | .ref _ as => by
    rw [tall]
    cases as with
    | nil => simp [tallS]
    | cons t r => have := tall_ge t; rw [tallS]; omega
  | .sub b _ _ => by have := tall_ge b; rw [tall]; omega
  | .nam _ | .int _ | .real _ _ | .dble _ _ | .log _ | .chr _ | .cplx _ _ => Nat.le_refl _
theorem wrap_len (b : Bool) (l : List Lx) : (txs l).length ≤ (txs (wrap b l)).length := by
  rw [txs_wrap]
  cases b with
  | false => exact Nat.le_refl _
  | true => simp; omega
section
variable {N d : Nat}
theorem within_tx {t : Tr} (h : Ok t) {k : Nat} (hk : callP N (d + 1) 20 [t.pv] [] = .ok (.str (txs (lx t)), [])) (hl : (txs (lx t)).length ≤ 800000) : callP N (d + 2) 14 [t.pv, .int k] [] = .ok (.str (txs (wrap (decide (bindT t < k)) (lx t))), []) := by
  rw [k_within h hk (by omega), txs_wrap]
  simp only [decide_eq_true_eq]
/-- the head of list_expr: not this tag -/
theorem skip20 {t : PV} {tag x : List Nat} {v2 v3 v4 : Option PV} {A R : PSs} (h : tag ≠ x) : exs (callP N d) N (.cons (.iff (.cmp .eq (.var 1) (.cst (.str x))) A .nil) R) [some t, some (.str tag), v2, v3, v4] [] = exs (callP N d) N R [some t, some (.str tag), v2, v3, v4] [] :=
  exs_next (by simp only [eg, h])
theorem k20_const {t : Tr} {s : List Nat} (h : IsConst t) (hk : callP N d 17 [t.pv] [] = .ok (.str s, [])) : callP N (d + 1) 20 [t.pv] [] = .ok (.str s, []) := by
  obtain ⟨l, e⟩ := tag_pv t
  rw [callP_plain (f := c20) rfl, runFD_args (env := [some t.pv, none, none, none, none]) rfl rfl]
  unfold c20
  rw [exs_next (env' := [some t.pv, some (.str (tagT t)), none, none, none]) (σ' := []) (by rw [e]; simp only [eg, ix0])]
  have ht : tagT t ≠ [98, 105, 110] ∧ tagT t ≠ [117, 110] ∧ tagT t ≠ [110, 97, 109, 101] ∧ tagT t ≠ [114, 101, 102] ∧ tagT t ≠ [115, 117, 98] ∧ tagT t ≠ [97, 108, 116] ∧ tagT t ≠ [105, 100, 111] := by
    match t, h with
    | .int _, _ | .real _ _, _ | .dble _ _, _ | .log _, _ | .chr _, _ | .cplx _ _, _ => simp [tagT]
  obtain ⟨h1, h2, h3, h4, h5, h6, h7⟩ := ht
  rw [skip20 h1, skip20 h2, skip20 h3, skip20 h4, skip20 h5, skip20 h6, skip20 h7]
  rw [exs_ret (v := .str s) (env' := [some t.pv, some (.str (tagT t)), none, none, none]) (σ' := []) (by simp only [eg, hk])]
  exact leave_nl (σ := []) (v := .str _) rfl rfl
mutual
theorem k_list : ∀ t : Tr, Ok t → ∀ d, tall t ≤ d → (txs (lx t)).length ≤ 800000 → callP N d 20 [t.pv] [] = .ok (.str (txs (lx t)), [])
  | .bin op l r, h, d, hd, hl => by
    unfold Ok at h
    rw [tall] at hd
    have t1 := tall_ge l
    obtain ⟨d, rfl⟩ : ∃ e, d = e + 3 := ⟨d - 3, by omega⟩
    rw [lx, txs_app] at hl ⊢
    have w1 := wrap_len (decide (bindT l < leftB (prioS op))) (lx l)
    have w2 := wrap_len (decide (bindT r < rightB (prioS op))) (lx r)
    simp only [txs, Lx.tx, Lx.tok, Tok.tx, List.length_append] at hl ⊢
    have k1 := within_tx (N := N) (d := d) (k := leftB (prioS op)) h.2.1 (k_list l h.2.1 (d + 1) (by omega) (by omega)) (by omega)
    have k2 := within_tx (N := N) (d := d) (k := rightB (prioS op)) h.2.2 (k_list r h.2.2 (d + 1) (by omega) (by omega)) (by omega)
    generalize txs (wrap (decide (bindT l < leftB (prioS op))) (lx l)) = x at *
    generalize txs (wrap (decide (bindT r < rightB (prioS op))) (lx r)) = y at *
    have a1 := add_s (a := x) (b := op) (by omega)
    have a2 := add_s (a := x ++ op) (b := y) (by simp; omega)
    rw [callP_plain (f := c20) rfl, runFD_args (env := [some (Tr.bin op l r).pv, none, none, none, none]) rfl rfl]
    unfold c20 Tr.pv
    rw [exs_next (env' := [some (.tup [.str [98, 105, 110], .str op, l.pv, r.pv]), some (.str [98, 105, 110]), none, none, none]) (σ' := []) (by simp only [eg, ix0])]
    rw [exs_ret (v := .str (x ++ op ++ y)) (env' := [some (.tup [.str [98, 105, 110], .str op, l.pv, r.pv]), some (.str [98, 105, 110]), some (.int (prioS op)), some (.int (leftB (prioS op))), some (.int (rightB (prioS op)))]) (σ' := []) (by simp only [eg, ix1, ix2, ix3, binds_tab h.1, k1, k2, a1, a2])]
    rw [List.append_assoc]
    exact leave_nl (σ := []) (v := .str _) rfl rfl
  | .un op a, h, d, hd, hl => by
    unfold Ok at h
    rw [tall] at hd
    have t1 := tall_ge a
    obtain ⟨d, rfl⟩ : ∃ e, d = e + 3 := ⟨d - 3, by omega⟩
    rw [lx] at hl ⊢
    have w1 := wrap_len (decide (bindT a < unB op)) (lx a)
    simp only [txs, Lx.tx, Lx.tok, Tok.tx, List.length_append] at hl ⊢
    have k1 := within_tx (N := N) (d := d) (k := unB op) h.2 (k_list a h.2 (d + 1) (by omega) (by omega)) (by omega)
    generalize txs (wrap (decide (bindT a < unB op)) (lx a)) = x at *
    have a1 := add_s (a := op) (b := x) (by omega)
    have hu := unary_tab (σ := []) h.1
    rw [callP_plain (f := c20) rfl, runFD_args (env := [some (Tr.un op a).pv, none, none, none, none]) rfl rfl]
    unfold c20 Tr.pv
    rw [exs_next (env' := [some (.tup [.str [117, 110], .str op, a.pv]), some (.str [117, 110]), none, none, none]) (σ' := []) (by simp only [eg, ix0])]
    rw [skip20 (by decide)]
    generalize ((if op = tNOT then 4 else 7 : Nat) : Int) = q at hu
    rw [exs_ret (v := .str (op ++ x)) (env' := [some (.tup [.str [117, 110], .str op, a.pv]), some (.str [117, 110]), none, none, none]) (σ' := []) (by simp only [eg, ix1, ix2, hu, k1, a1])]
    exact leave_nl (σ := []) (v := .str _) rfl rfl
  | .nam s, h, d, hd, hl => by
    obtain ⟨d, rfl⟩ : ∃ e, d = e + 1 := ⟨d - 1, by have := tall_ge (.nam s); omega⟩
    rw [callP_plain (f := c20) rfl, runFD_args (env := [some (Tr.nam s).pv, none, none, none, none]) rfl rfl]
    unfold c20 Tr.pv
    rw [exs_next (env' := [some (.tup [.str [110, 97, 109, 101], .str s]), some (.str [110, 97, 109, 101]), none, none, none]) (σ' := []) (by simp only [eg, ix0])]
    rw [skip20 (by decide), skip20 (by decide)]
    rw [exs_ret (v := .str s) (env' := [some (.tup [.str [110, 97, 109, 101], .str s]), some (.str [110, 97, 109, 101]), none, none, none]) (σ' := []) (by simp only [eg, ix1])]
    have e : txs (lx (.nam s)) = s := by simp [lx, txs, Lx.tx, Lx.tok, Tok.tx]
    rw [e]
    exact leave_nl (σ := []) (v := .str _) rfl rfl
  | .ref s as, h, d, hd, hl => by
    unfold Ok at h
    rw [tall] at hd
    obtain ⟨d, rfl⟩ : ∃ e, d = e + 2 := ⟨d - 2, by omega⟩
    have e : txs (lx (.ref s as)) = s ++ [40] ++ txs (row as) ++ [41] := by
      rw [lx]; simp [txs, txs_app, Lx.tx, Lx.tok, Tok.tx]
    rw [e] at hl ⊢
    simp only [List.length_append, List.length_cons, List.length_nil] at hl
    have hs := sum_row as
    have k1 := k_row (N := N) (d := d) (k_listS as h.2 d (by omega) (by omega)) (by omega)
    generalize txs (row as) = x at *
    have a1 := add_s (a := s) (b := [40]) (by simp; omega)
    have a2 := add_s (a := s ++ [40]) (b := x) (by simp; omega)
    have a3 := add_s (a := s ++ [40] ++ x) (b := [41]) (by simp; omega)
    rw [callP_plain (f := c20) rfl, runFD_args (env := [some (Tr.ref s as).pv, none, none, none, none]) rfl rfl]
    unfold c20 Tr.pv
    rw [exs_next (env' := [some (.tup [.str [114, 101, 102], .str s, .list as.pvs]), some (.str [114, 101, 102]), none, none, none]) (σ' := []) (by simp only [eg, ix0])]
    rw [skip20 (by decide), skip20 (by decide), skip20 (by decide)]
    rw [exs_ret (v := .str (s ++ [40] ++ x ++ [41])) (env' := [some (.tup [.str [114, 101, 102], .str s, .list as.pvs]), some (.str [114, 101, 102]), none, none, none]) (σ' := []) (by simp only [eg, ix1, ix2, k1, a1, a2, a3])]
    exact leave_nl (σ := []) (v := .str _) rfl rfl
  | .sub b lo hi, h, d, hd, hl => by
    unfold Ok at h
    rw [tall] at hd
    obtain ⟨d, rfl⟩ : ∃ e, d = e + 2 := ⟨d - 2, by omega⟩
    have e : txs (lx (.sub b lo hi)) = txs (lx b) ++ [40] ++ txs (lxO lo) ++ [58] ++ txs (lxO hi) ++ [41] := by
      rw [lx]; simp [txs, txs_app, Lx.tx, Lx.tok, Tok.tx]
    rw [e] at hl ⊢
    simp only [List.length_append, List.length_cons, List.length_nil] at hl
    have k1 := k_list b h.2.1 (d + 1) (by omega) (by omega)
    have k2 := k_part (N := N) (d := d) (k_listO lo h.2.2.1 d (by omega) (by omega)) (fun q => by rw [q]; rfl)
    have k3 := k_part (N := N) (d := d) (k_listO hi h.2.2.2 d (by omega) (by omega)) (fun q => by rw [q]; rfl)
    generalize txs (lx b) = x at *
    generalize txs (lxO lo) = y at *
    generalize txs (lxO hi) = z at *
    have a1 := add_s (a := x) (b := [40]) (by simp; omega)
    have a2 := add_s (a := x ++ [40]) (b := y) (by simp; omega)
    have a3 := add_s (a := x ++ [40] ++ y) (b := [58]) (by simp; omega)
    have a4 := add_s (a := x ++ [40] ++ y ++ [58]) (b := z) (by simp; omega)
    have a5 := add_s (a := x ++ [40] ++ y ++ [58] ++ z) (b := [41]) (by simp; omega)
    rw [callP_plain (f := c20) rfl, runFD_args (env := [some (Tr.sub b lo hi).pv, none, none, none, none]) rfl rfl]
    unfold c20 Tr.pv
    rw [exs_next (env' := [some (.tup [.str [115, 117, 98], b.pv, lo.pv, hi.pv]), some (.str [115, 117, 98]), none, none, none]) (σ' := []) (by simp only [eg, ix0])]
    rw [skip20 (by decide), skip20 (by decide), skip20 (by decide), skip20 (by decide)]
    rw [exs_ret (v := .str (x ++ [40] ++ y ++ [58] ++ z ++ [41])) (env' := [some (.tup [.str [115, 117, 98], b.pv, lo.pv, hi.pv]), some (.str [115, 117, 98]), none, none, none]) (σ' := []) (by simp only [eg, ix1, ix2, ix3, k1, k2, k3, a1, a2, a3, a4, a5])]
    exact leave_nl (σ := []) (v := .str _) rfl rfl
  | .int i, h, d, hd, hl => by
    obtain ⟨d, rfl⟩ : ∃ e, d = e + 5 := ⟨d - 5, by have := tall_ge (.int i); omega⟩
    exact k20_const trivial (k_const h trivial)
  | .real m e, h, d, hd, hl => by
    obtain ⟨d, rfl⟩ : ∃ e, d = e + 5 := ⟨d - 5, by have := tall_ge (.real m e); omega⟩
    exact k20_const trivial (k_const h trivial)
  | .dble m e, h, d, hd, hl => by
    obtain ⟨d, rfl⟩ : ∃ e, d = e + 5 := ⟨d - 5, by have := tall_ge (.dble m e); omega⟩
    exact k20_const trivial (k_const h trivial)
  | .log b, h, d, hd, hl => by
    obtain ⟨d, rfl⟩ : ∃ e, d = e + 5 := ⟨d - 5, by have := tall_ge (.log b); omega⟩
    exact k20_const trivial (k_const h trivial)
  | .chr s, h, d, hd, hl => by
    obtain ⟨d, rfl⟩ : ∃ e, d = e + 5 := ⟨d - 5, by have := tall_ge (.chr s); omega⟩
    exact k20_const trivial (k_const h trivial)
  | .cplx a b, h, d, hd, hl => by
    obtain ⟨d, rfl⟩ : ∃ e, d = e + 5 := ⟨d - 5, by have := tall_ge (.cplx a b); omega⟩
    exact k20_const trivial (k_const h trivial)
theorem k_listO : ∀ o : TrO, OkO o → ∀ d, tallO o ≤ d → (txs (lxO o)).length ≤ 800000 → ∀ t, o = .some t → callP N d 20 [t.pv] [] = .ok (.str (txs (lxO o)), [])
  | .none, _, d, hd, hl, t, q => by cases q
  | .some t, h, d, hd, hl, t', q => by
    cases q
    unfold OkO at h
    rw [tallO] at hd
    rw [lxO] at hl ⊢
    exact k_list t h d hd hl
theorem k_listS : ∀ as : Trs, Oks as → ∀ d, tallS as ≤ d → ((rowS as).map List.length).sum ≤ 800000 → mapC (fun a σ => callP N d 20 [a] σ) as.pvs [] = .ok ((rowS as).map PV.str, [])
  | .nil, _, d, hd, hl => rfl
  | .cons t r, h, d, hd, hl => by
    unfold Oks at h
    rw [tallS] at hd
    rw [rowS, List.map_cons, List.sum_cons] at hl
    rw [Trs.pvs, mapC, k_list t h.1 d (by omega) (by omega)]
    dsimp only
    rw [k_listS r h.2 d (by omega) (by omega)]
    rfl
end
end
end Mine
namespace Mine
open PySem
/-! equal values, equal trees -/
theorem Num.pl (a : Num) : plainP a.pv = true := by cases a <;> rfl
mutual
theorem Tr.pl : ∀ t : Tr, plainP t.pv = true
  | .bin _ l r => by simp [Tr.pv, plainP, plainPs, l.pl, r.pl]
  | .un _ a => by simp [Tr.pv, plainP, plainPs, a.pl]
  | .nam _ => rfl
  | .ref _ as => by simp [Tr.pv, plainP, plainPs, as.pls]
  | .sub b lo hi => by simp [Tr.pv, plainP, plainPs, b.pl, lo.pl, hi.pl]
  | .int _ => rfl
  | .real _ _ => rfl
  | .dble _ _ => rfl
  | .log _ => rfl
  | .chr _ => rfl
  | .cplx a b => by simp [Tr.pv, plainP, plainPs, a.pl, b.pl]
theorem TrO.pl : ∀ t : TrO, plainP t.pv = true
  | .none => rfl
  | .some t => by simp [TrO.pv, t.pl]
theorem Trs.pls : ∀ t : Trs, plainPs t.pvs = true
  | .nil => rfl
  | .cons t r => by simp [Trs.pvs, plainPs, t.pl, r.pls]
end
theorem eqv_str {a b : List Nat} : PyData.eqv (.str ⟨a.toArray⟩) (.str ⟨b.toArray⟩) = true ↔ a = b := by
  rw [PyData.eqv, beq_iff_eq]
  constructor
  · intro h
    have := congrArg (fun s : Str => s.cps.toList) h
    simpa using this
  · rintro rfl; rfl
theorem eqv_int {a b : Int} : PyData.eqv (.int a) (.int b) = true ↔ a = b := by
  rw [PyData.eqv, beq_iff_eq]
theorem eqv_bool {a b : Bool} : PyData.eqv (.bool a) (.bool b) = true ↔ a = b := by
  rw [PyData.eqv, beq_iff_eq]
theorem eqv_tup {a b : List PyData} : PyData.eqv (.tuple a) (.tuple b) = PyData.eqvAll a b := by rw [PyData.eqv]
theorem eqv_list {a b : List PyData} : PyData.eqv (.list a) (.list b) = PyData.eqvAll a b := by rw [PyData.eqv]
theorem all_cons {x y : PyData} {xs ys : List PyData} : PyData.eqvAll (x :: xs) (y :: ys) = (PyData.eqv x y && PyData.eqvAll xs ys) := by rw [PyData.eqvAll]
theorem all_nil : PyData.eqvAll [] [] = true := by rw [PyData.eqvAll]
theorem toD_num_eq {a b : Num} : PyData.eqv (toD a.pv) (toD b.pv) = true ↔ a = b := by
  cases a <;> cases b <;> simp [Num.pv, toD, toDs, eqv_tup, all_cons, all_nil, eqv_str, eqv_int, PyData.eqvAll]
theorem toD_shape (t : Tr) : ∃ l, toD t.pv = .tuple (.str ⟨(tagT t).toArray⟩ :: l) := by
  cases t <;> exact ⟨_, rfl⟩
theorem tag_eq {a b : Tr} (h : PyData.eqv (toD a.pv) (toD b.pv) = true) : tagT a = tagT b := by
  obtain ⟨x, hx⟩ := toD_shape a
  obtain ⟨y, hy⟩ := toD_shape b
  rw [hx, hy, eqv_tup, all_cons, Bool.and_eq_true] at h
  exact eqv_str.mp h.1
mutual
theorem tr_eq : ∀ a b : Tr, PyData.eqv (toD a.pv) (toD b.pv) = true → a = b
  | .bin op l r, .bin op' l' r', h => by
    simp only [Tr.pv, toD, toDs, eqv_tup, all_cons, all_nil, Bool.and_eq_true, eqv_str] at h
    rw [h.2.1, tr_eq l l' h.2.2.1, tr_eq r r' h.2.2.2.1]
  | .un op a, .un op' a', h => by
    simp only [Tr.pv, toD, toDs, eqv_tup, all_cons, all_nil, Bool.and_eq_true, eqv_str] at h
    rw [h.2.1, tr_eq a a' h.2.2.1]
  | .nam s, .nam s', h => by
    simp only [Tr.pv, toD, toDs, eqv_tup, all_cons, all_nil, Bool.and_eq_true, eqv_str] at h
    rw [h.2.1]
  | .ref s as, .ref s' as', h => by
    simp only [Tr.pv, toD, toDs, eqv_tup, eqv_list, all_cons, all_nil, Bool.and_eq_true, eqv_str] at h
    rw [h.2.1, trs_eq as as' h.2.2.1]
  | .sub b lo hi, .sub b' lo' hi', h => by
    simp only [Tr.pv, toD, toDs, eqv_tup, all_cons, all_nil, Bool.and_eq_true, eqv_str] at h
    rw [tr_eq b b' h.2.1, tro_eq lo lo' h.2.2.1, tro_eq hi hi' h.2.2.2.1]
  | .int i, .int i', h => by
    simp only [Tr.pv, toD, toDs, eqv_tup, all_cons, all_nil, Bool.and_eq_true, eqv_str, eqv_int] at h
    rw [h.2.1]
  | .real i e, .real i' e', h => by
    simp only [Tr.pv, toD, toDs, eqv_tup, all_cons, all_nil, Bool.and_eq_true, eqv_str, eqv_int] at h
    rw [h.2.1, h.2.2.1]
  | .dble i e, .dble i' e', h => by
    simp only [Tr.pv, toD, toDs, eqv_tup, all_cons, all_nil, Bool.and_eq_true, eqv_str, eqv_int] at h
    rw [h.2.1, h.2.2.1]
  | .log b, .log b', h => by
    simp only [Tr.pv, toD, toDs, eqv_tup, all_cons, all_nil, Bool.and_eq_true, eqv_str, eqv_bool] at h
    rw [h.2.1]
  | .chr s, .chr s', h => by
    simp only [Tr.pv, toD, toDs, eqv_tup, all_cons, all_nil, Bool.and_eq_true, eqv_str] at h
    rw [h.2.1]
  | .cplx a b, .cplx a' b', h => by
    simp only [Tr.pv, toD, toDs, eqv_tup, all_cons, all_nil, Bool.and_eq_true, eqv_str, toD_num_eq] at h
    rw [h.2.1, h.2.2.1]
  | .bin _ _ _, .un _ _, h | .bin _ _ _, .nam _, h | .bin _ _ _, .ref _ _, h | .bin _ _ _, .sub _ _ _, h | .bin _ _ _, .int _, h | .bin _ _ _, .real _ _, h | .bin _ _ _, .dble _ _, h | .bin _ _ _, .log _, h | .bin _ _ _, .chr _, h | .bin _ _ _, .cplx _ _, h
  | .un _ _, .bin _ _ _, h | .un _ _, .nam _, h | .un _ _, .ref _ _, h | .un _ _, .sub _ _ _, h | .un _ _, .int _, h | .un _ _, .real _ _, h | .un _ _, .dble _ _, h | .un _ _, .log _, h | .un _ _, .chr _, h | .un _ _, .cplx _ _, h
  | .nam _, .bin _ _ _, h | .nam _, .un _ _, h | .nam _, .ref _ _, h | .nam _, .sub _ _ _, h | .nam _, .int _, h | .nam _, .real _ _, h | .nam _, .dble _ _, h | .nam _, .log _, h | .nam _, .chr _, h | .nam _, .cplx _ _, h
  | .ref _ _, .bin _ _ _, h | .ref _ _, .un _ _, h | .ref _ _, .nam _, h | .ref _ _, .sub _ _ _, h | .ref _ _, .int _, h | .ref _ _, .real _ _, h | .ref _ _, .dble _ _, h | .ref _ _, .log _, h | .ref _ _, .chr _, h | .ref _ _, .cplx _ _, h
  | .sub _ _ _, .bin _ _ _, h | .sub _ _ _, .un _ _, h | .sub _ _ _, .nam _, h | .sub _ _ _, .ref _ _, h | .sub _ _ _, .int _, h | .sub _ _ _, .real _ _, h | .sub _ _ _, .dble _ _, h | .sub _ _ _, .log _, h | .sub _ _ _, .chr _, h | .sub _ _ _, .cplx _ _, h
  | .int _, .bin _ _ _, h | .int _, .un _ _, h | .int _, .nam _, h | .int _, .ref _ _, h | .int _, .sub _ _ _, h | .int _, .real _ _, h | .int _, .dble _ _, h | .int _, .log _, h | .int _, .chr _, h | .int _, .cplx _ _, h
  | .real _ _, .bin _ _ _, h | .real _ _, .un _ _, h | .real _ _, .nam _, h | .real _ _, .ref _ _, h | .real _ _, .sub _ _ _, h | .real _ _, .int _, h | .real _ _, .dble _ _, h | .real _ _, .log _, h | .real _ _, .chr _, h | .real _ _, .cplx _ _, h
  | .dble _ _, .bin _ _ _, h | .dble _ _, .un _ _, h | .dble _ _, .nam _, h | .dble _ _, .ref _ _, h | .dble _ _, .sub _ _ _, h | .dble _ _, .int _, h | .dble _ _, .real _ _, h | .dble _ _, .log _, h | .dble _ _, .chr _, h | .dble _ _, .cplx _ _, h
  | .log _, .bin _ _ _, h | .log _, .un _ _, h | .log _, .nam _, h | .log _, .ref _ _, h | .log _, .sub _ _ _, h | .log _, .int _, h | .log _, .real _ _, h | .log _, .dble _ _, h | .log _, .chr _, h | .log _, .cplx _ _, h
  | .chr _, .bin _ _ _, h | .chr _, .un _ _, h | .chr _, .nam _, h | .chr _, .ref _ _, h | .chr _, .sub _ _ _, h | .chr _, .int _, h | .chr _, .real _ _, h | .chr _, .dble _ _, h | .chr _, .log _, h | .chr _, .cplx _ _, h
  | .cplx _ _, .bin _ _ _, h | .cplx _ _, .un _ _, h | .cplx _ _, .nam _, h | .cplx _ _, .ref _ _, h | .cplx _ _, .sub _ _ _, h | .cplx _ _, .int _, h | .cplx _ _, .real _ _, h | .cplx _ _, .dble _ _, h | .cplx _ _, .log _, h | .cplx _ _, .chr _, h => by
    have := tag_eq h
    simp [tagT] at this
theorem tro_eq : ∀ a b : TrO, PyData.eqv (toD a.pv) (toD b.pv) = true → a = b
  | .none, .none, _ => rfl
  | .some t, .some t', h => by rw [tr_eq t t' h]
  | .none, .some t, h => by
    obtain ⟨l, e⟩ := toD_shape t
    rw [TrO.pv, TrO.pv, e] at h
    simp [toD, PyData.eqv] at h
  | .some t, .none, h => by
    obtain ⟨l, e⟩ := toD_shape t
    rw [TrO.pv, TrO.pv, e] at h
    simp [toD, PyData.eqv] at h
theorem trs_eq : ∀ a b : Trs, PyData.eqvAll (toDs a.pvs) (toDs b.pvs) = true → a = b
  | .nil, .nil, _ => rfl
  | .cons t r, .cons t' r', h => by
    simp only [Trs.pvs, toDs, all_cons, Bool.and_eq_true] at h
    rw [tr_eq t t' h.1, trs_eq r r' h.2]
  | .nil, .cons t r, h => by simp [Trs.pvs, toDs, PyData.eqvAll] at h
  | .cons t r, .nil, h => by simp [Trs.pvs, toDs, PyData.eqvAll] at h
end
mutual
theorem self_eq : ∀ v : PV, PyData.eqv (toD v) (toD v) = true
  | .none => by simp [toD, PyData.eqv]
  | .bool b => by simp [toD, PyData.eqv]
  | .int b => by simp [toD, PyData.eqv]
  | .str b => by simp [toD, PyData.eqv]
  | .tup l => by rw [toD, eqv_tup]; exact selfs_eq l
  | .list l => by rw [toD, eqv_list]; exact selfs_eq l
  | .loc k => by simp [toD, PyData.eqv]
  | .tab k => by simp [toD, PyData.eqv]
theorem selfs_eq : ∀ l : List PV, PyData.eqvAll (toDs l) (toDs l) = true
  | [] => by simp [toDs, PyData.eqvAll]
  | v :: r => by rw [toDs, all_cons, self_eq v, selfs_eq r]; rfl
end
theorem eqv_ne {a b : Tr} (h : a ≠ b) : PyData.eqv (toD a.pv) (toD b.pv) = false := by
  cases q : PyData.eqv (toD a.pv) (toD b.pv) with
  | false => rfl
  | true => exact absurd (tr_eq a b q) h
end Mine
namespace Mine
/-! the tree is built -/
/-- the tape -/
def tau (zs : List Int) (X : Store) (a : Nat) : Store := [.list (zs.map PV.int), .int a] :: X
theorem ints_nl (zs : List Int) : noLocs (zs.map PV.int) = true := by
  induction zs with
  | nil => rfl
  | cons z r ih => simp [noLocs, noLoc, ih]
section
variable {N d : Nat} {zs : List Int} {X : Store} {a : Nat}
theorem tau_nl (hX : X.all noLocs = true) : (tau zs X a).all noLocs = true := by
  rw [tau, List.all_cons, hX]
  simp [noLocs, noLoc, ints_nl]
theorem tau_i1 : idxP (tau zs X a) (.loc 0) (.int 1) = some (.int a) := rfl
theorem tau_i0 : idxP (tau zs X a) (.loc 0) (.int 0) = some (.list (zs.map PV.int)) := rfl
theorem k_take {n : Nat} (hn : 0 < n) (hX : X.all noLocs = true) (hz : zs.length ≤ 1000) (ha : a ≤ 1000) : ∃ r : Nat, r < n ∧ callP N (d + 1) 45 [.loc 0, .int n] (tau zs X a) = .ok (.int r, tau zs X (a + 1)) := by
  have key : ∀ i : Int, ∃ r : Nat, r < n ∧ binP .mod (.int i) (.int n) = some (.int r) := by
    intro i
    have h1 := Int.fmod_nonneg_of_pos i (show (0 : Int) < n by omega)
    have h2 := Int.fmod_lt_of_pos i (show (0 : Int) < n by omega)
    refine ⟨(Int.fmod i n).toNat, by omega, ?_⟩
    have h3 : (0 : Int) < n := by omega
    simp only [binP, h3, if_true]
    congr 2; omega
  have hput : ex (callP N d) N (.put (.var 0) (.cst (.int 1)) (.bin .add (.var 2) (.cst (.int 1)))) [some (.loc 0), some (.int n), some (.int a)] (tau zs X a) = .ok (.next, [some (.loc 0), some (.int n), some (.int a)], tau zs X (a + 1)) := by
    rw [ex_put]
    simp only [eg]
    rfl
  have hlen : biP (tau zs X (a + 1)) .len [.list (zs.map PV.int)] = some (.int zs.length) := by
    have : zs.length ≤ szL := Nat.le_trans hz (by decide)
    simp only [biP, List.length_map, this, if_true]
  by_cases hlt : a < zs.length
  · obtain ⟨r, hr, e⟩ := key (zs[a])
    refine ⟨r, hr, ?_⟩
    have hi : idxP (tau zs X (a + 1)) (.list (zs.map PV.int)) (.int a) = some (.int zs[a]) := by
      refine idx_nat ?_ (by rw [List.length_map]; exact Nat.le_trans hz (by decide))
      rw [List.getElem?_map, List.getElem?_eq_getElem hlt]; rfl
    rw [callP_plain (f := c45) rfl, runFD_args (env := [some (.loc 0), some (.int n), none]) rfl rfl]
    unfold c45
    rw [exs_next (env' := [some (.loc 0), some (.int n), some (.int a)]) (σ' := tau zs X a) (by simp only [eg, tau_i1])]
    rw [exs_next hput]
    rw [exs_ret (v := .int r) (env' := [some (.loc 0), some (.int n), some (.int a)]) (σ' := tau zs X (a + 1)) (by simp only [eg, tau_i0, hlen, hlt, hi, e])]
    exact leave_nl (σ := tau zs X (a + 1)) (v := .int r) rfl (tau_nl hX)
  · obtain ⟨r, hr, e⟩ := key ((a : Int) * a + 5 * a + 9)
    refine ⟨r, hr, ?_⟩
    have m1 : binP .mul (.int a) (.int a) = some (.int ((a : Int) * a)) := by
      have : (a : Int).natAbs < 2 ^ 63 := by simp only [Int.natAbs_natCast]; exact Nat.lt_of_le_of_lt ha (by decide)
      simp only [binP, this, if_true]
    have m2 : binP .mul (.int 5) (.int a) = some (.int (5 * (a : Int))) := rfl
    rw [callP_plain (f := c45) rfl, runFD_args (env := [some (.loc 0), some (.int n), none]) rfl rfl]
    unfold c45
    rw [exs_next (env' := [some (.loc 0), some (.int n), some (.int a)]) (σ' := tau zs X a) (by simp only [eg, tau_i1])]
    rw [exs_next hput]
    rw [exs_next (env' := [some (.loc 0), some (.int n), some (.int a)]) (σ' := tau zs X (a + 1)) (by simp only [eg, tau_i0, hlen, hlt])]
    rw [exs_ret (v := .int r) (env' := [some (.loc 0), some (.int n), some (.int a)]) (σ' := tau zs X (a + 1)) (by simp only [eg, m1, m2, e])]
    exact leave_nl (σ := tau zs X (a + 1)) (v := .int r) rfl (tau_nl hX)
theorem mod10 (m : Nat) : binP .mod (.int m) (.int 10) = some (.int ((m % 10 : Nat) : Int)) := by
  have : (0 : Int) < 10 := by decide
  simp only [binP, this, if_true]
  rw [Int.fmod_eq_emod_of_nonneg _ (by decide)]
  rfl
theorem div10 (m : Nat) : binP .div (.int m) (.int 10) = some (.int ((m / 10 : Nat) : Int)) := by
  simp only [binP, if_true]
  rw [Int.fdiv_eq_ediv_of_nonneg _ (by decide)]
  rfl
theorem while_norm {σ : Store} : ∀ (k m fu : Nat) (e : Int), 0 < m → m < 10 ^ k → k < fu → ∃ m' j : Nat, j ≤ k ∧ 0 < m' ∧ m' ≤ m ∧ m' % 10 ≠ 0 ∧
    whileN (ev (callP N d) (.cmp .eq (.bin .mod (.var 1) (.cst (.int 10))) (.cst (.int 0)))).2 (exs (callP N d) N (.cons (.asg 1 (.bin .div (.var 1) (.cst (.int 10)))) (.cons (.asg 2 (.bin .add (.var 2) (.cst (.int 1)))) .nil))) fu [some (.loc 0), some (.int m), some (.int e)] σ = .ok (.next, [some (.loc 0), some (.int m'), some (.int (e + j))], σ)
  | 0, m, fu, e, h0, hm, hf => by simp at hm; omega
  | k + 1, m, fu, e, h0, hm, hf => by
    obtain ⟨fu, rfl⟩ : ∃ j, fu = j + 1 := ⟨fu - 1, by omega⟩
    have ez : (((m % 10 : Nat) : Int) = 0) = (m % 10 = 0) := by simp only [eq_iff_iff]; omega
    by_cases hz : m % 10 = 0
    · have e1 : e + 1 + 0 = e + 1 := by omega
      obtain ⟨m', j, h1, h2, h3, h4, h5⟩ := while_norm k (m / 10) fu (e + 1) (by omega) (by rw [Nat.pow_succ] at hm; omega) (by omega)
      refine ⟨m', j + 1, by omega, h2, by omega, h4, ?_⟩
      have hzt : (((m % 10 : Nat) : Int) = 0) = True := by rw [ez]; simp only [hz]
      rw [while_step (env' := [some (.loc 0), some (.int ((m / 10 : Nat) : Int)), some (.int (e + 1))]) (σ' := σ) (σ'' := σ) (by simp only [eg, mod10, hzt]) (by simp only [eg, div10]), h5]
      rw [show e + 1 + (j : Int) = e + ((j + 1 : Nat) : Int) by omega]
    · have hzf : (((m % 10 : Nat) : Int) = 0) = False := by rw [ez]; simp only [hz]
      refine ⟨m, 0, by omega, h0, Nat.le_refl _, hz, ?_⟩
      rw [while_stop (σ' := σ) (by simp only [eg, mod10, hzf])]
      simp
/-- a pair -/
theorem k_pair (hN : 10 < N) (hX : X.all noLocs = true) (hz : zs.length ≤ 1000) (ha : a + 1 ≤ 1000) : ∃ (m : Nat) (e : Int), PairOk m e ∧ callP N (d + 2) 46 [.loc 0] (tau zs X a) = .ok (.tup [.int m, .int e], tau zs X (a + 2)) := by
  obtain ⟨m, hm, k1⟩ := k_take (N := N) (d := d) (zs := zs) (X := X) (a := a) (n := 5000) (by decide) hX hz (by omega)
  obtain ⟨e, he, k2⟩ := k_take (N := N) (d := d) (zs := zs) (X := X) (a := a + 1) (n := 41) (by decide) hX hz ha
  have k1 : callP N (d + 1) 45 [.loc 0, .int 5000] (tau zs X a) = _ := k1
  have k2 : callP N (d + 1) 45 [.loc 0, .int 41] (tau zs X (a + 1)) = .ok (.int e, tau zs X (a + 2)) := k2
  have s1 : ex (callP N (d + 1)) N (.asg 1 (.call 45 (.cons (.var 0) (.cons (.cst (.int 5000)) .nil)))) [some (.loc 0), none, none] (tau zs X a) = .ok (.next, [some (.loc 0), some (.int m), none], tau zs X (a + 1)) := by simp only [eg, k1]
  have s2 : ex (callP N (d + 1)) N (.asg 2 (.bin .sub (.call 45 (.cons (.var 0) (.cons (.cst (.int 41)) .nil))) (.cst (.int 20)))) [some (.loc 0), some (.int m), none] (tau zs X (a + 1)) = .ok (.next, [some (.loc 0), some (.int m), some (.int (e - 20))], tau zs X (a + 2)) := by simp only [eg, k2]
  by_cases h0 : m = 0
  · subst h0
    refine ⟨0, 0, ⟨by decide, by decide, by decide, fun _ => rfl, fun q => absurd rfl q⟩, ?_⟩
    rw [callP_plain (f := c46) rfl, runFD_args (env := [some (.loc 0), none, none]) rfl rfl]
    unfold c46
    rw [exs_next s1, exs_next s2]
    rw [exs_ret (v := .tup [.int 0, .int 0]) (env' := [some (.loc 0), some (.int 0), some (.int (e - 20))]) (σ' := tau zs X (a + 2)) (by
      have : ((((0 : Nat) : Int)) = 0) = True := by simp
      simp only [eg, this]
      rfl)]
    exact leave_nl (σ := tau zs X (a + 2)) (v := .tup [.int 0, .int 0]) rfl (tau_nl hX)
  · obtain ⟨m', j, h1, h2, h3, h4, h5⟩ := while_norm (N := N) (d := d + 1) (σ := tau zs X (a + 2)) 4 m N ((e : Int) - 20) (by omega) (by omega) (by omega)
    refine ⟨m', (e : Int) - 20 + j, ⟨by omega, by omega, by omega, fun q => by omega, fun _ => h4⟩, ?_⟩
    rw [callP_plain (f := c46) rfl, runFD_args (env := [some (.loc 0), none, none]) rfl rfl]
    unfold c46
    have hne : ((m : Int) = 0) = False := by simp only [eq_iff_iff, iff_false]; omega
    rw [exs_next s1, exs_next s2]
    rw [exs_next (env' := [some (.loc 0), some (.int m), some (.int (e - 20))]) (σ' := tau zs X (a + 2)) (by simp only [eg, hne])]
    rw [exs_next (by rw [ex_whl]; exact h5)]
    rw [exs_ret (v := .tup [.int m', .int ((e : Int) - 20 + j)]) (env' := [some (.loc 0), some (.int m'), some (.int ((e : Int) - 20 + j))]) (σ' := tau zs X (a + 2)) (by simp only [eg])]
    exact leave_nl (σ := tau zs X (a + 2)) (v := .tup [.int m', .int _]) rfl (tau_nl hX)
theorem mul_s {s v : Int} (hs : s.natAbs ≤ 2) : binP .mul (.int s) (.int v) = some (.int (s * v)) := by
  have : s.natAbs < 2 ^ 63 := by omega
  simp only [binP, this, if_true]
/-- a part of a complex constant -/
theorem k_partT (hN : 10 < N) (hX : X.all noLocs = true) (hz : zs.length ≤ 1000) (ha : a + 4 ≤ 1000) : ∃ (x : Num) (b : Nat), NumOk x ∧ a ≤ b ∧ b ≤ a + 4 ∧ callP N (d + 3) 47 [.loc 0] (tau zs X a) = .ok (x.pv, tau zs X b) := by
  obtain ⟨r1, h1, k1⟩ := k_take (N := N) (d := d + 1) (zs := zs) (X := X) (a := a) (n := 2) (by decide) hX hz (by omega)
  obtain ⟨r2, h2, k2⟩ := k_take (N := N) (d := d + 1) (zs := zs) (X := X) (a := a + 1) (n := 2) (by decide) hX hz (by omega)
  have k1 : callP N (d + 2) 45 [.loc 0, .int 2] (tau zs X a) = _ := k1
  have k2 : callP N (d + 2) 45 [.loc 0, .int 2] (tau zs X (a + 1)) = .ok (.int r2, tau zs X (a + 2)) := k2
  have hs : ((1 : Int) - 2 * r1).natAbs = 1 := by omega
  have m1 := mul_s (s := 2) (v := r1) (by decide)
  have s1 : ex (callP N (d + 2)) N (.asg 1 (.bin .sub (.cst (.int 1)) (.bin .mul (.cst (.int 2)) (.call 45 (.cons (.var 0) (.cons (.cst (.int 2)) .nil)))))) [some (.loc 0), none, none, none] (tau zs X a) = .ok (.next, [some (.loc 0), some (.int ((1 : Int) - 2 * r1)), none, none], tau zs X (a + 1)) := by simp only [eg, k1, m1]
  generalize hsg : (1 : Int) - 2 * r1 = sg' at *
  by_cases h0 : r2 = 0
  · subst h0
    obtain ⟨r3, h3, k3⟩ := k_take (N := N) (d := d + 1) (zs := zs) (X := X) (a := a + 2) (n := 30) (by decide) hX hz (by omega)
    have k3 : callP N (d + 2) 45 [.loc 0, .int 30] (tau zs X (a + 2)) = .ok (.int r3, tau zs X (a + 3)) := k3
    have m2 := mul_s (s := sg') (v := r3) (by omega)
    refine ⟨.int (sg' * r3), a + 3, ?_, by omega, by omega, ?_⟩
    · show (sg' * r3).natAbs < 30
      rw [Int.natAbs_mul, hs]; simpa using h3
    · rw [callP_plain (f := c47) rfl, runFD_args (env := [some (.loc 0), none, none, none]) rfl rfl]
      unfold c47
      rw [exs_next s1]
      have hz0 : ((((0 : Nat) : Int)) = 0) = True := by simp
      rw [exs_ret (v := .tup [.str [105, 110, 116], .int (sg' * r3)]) (env' := [some (.loc 0), some (.int sg'), none, none]) (σ' := tau zs X (a + 3)) (by simp only [eg, k2, hz0, k3, m2])]
      exact leave_nl (σ := tau zs X (a + 3)) (v := .tup [.str [105, 110, 116], .int (sg' * r3)]) rfl (tau_nl hX)
  · obtain ⟨m, e, hp, k3⟩ := k_pair (N := N) (d := d) (zs := zs) (X := X) (a := a + 2) hN hX hz (by omega)
    have m2 := mul_s (s := sg') (v := m) (by omega)
    refine ⟨.real (sg' * m) e, a + 4, ?_, by omega, by omega, ?_⟩
    · show PairOk (sg' * m).natAbs e
      rw [Int.natAbs_mul, hs]; simpa using hp
    · rw [callP_plain (f := c47) rfl, runFD_args (env := [some (.loc 0), none, none, none]) rfl rfl]
      unfold c47
      rw [exs_next s1]
      have hne : ((r2 : Int) = 0) = False := by simp only [eq_iff_iff, iff_false]; omega
      rw [exs_next (env' := [some (.loc 0), some (.int sg'), none, none]) (σ' := tau zs X (a + 2)) (by simp only [eg, k2, hne])]
      rw [exs_next (env' := [some (.loc 0), some (.int sg'), some (.int m), some (.int e)]) (σ' := tau zs X (a + 4)) (by simp only [eg, k3])]
      rw [exs_ret (v := .tup [.str [114, 101, 97, 108], .int (sg' * m), .int e]) (env' := [some (.loc 0), some (.int sg'), some (.int m), some (.int e)]) (σ' := tau zs X (a + 4)) (by simp only [eg, m2])]
      exact leave_nl (σ := tau zs X (a + 4)) (v := .tup [.str [114, 101, 97, 108], .int (sg' * m), .int e]) rfl (tau_nl hX)
end
end Mine
namespace Mine
open PySem
section
variable {N d : Nat} {zs : List Int} {X : Store} {a : Nat} {σ : Store}
theorem leave_more {Y : Store} {n : Nat} {v : PV} (hn : n = σ.length) (hv : noLoc v = true) (h : σ.all noLocs = true) : leaveP n (.ret v) (σ ++ Y) = .ok (v, σ) := by
  subst hn
  simp only [leaveP, flP, freeze_nl hv, List.take_left, h, if_true]
theorem leave_lst {l : List PV} (hl : noLocs l = true) (h : σ.all noLocs = true) : leaveP σ.length (.ret (.loc σ.length)) (σ ++ [l]) = .ok (.list l, σ) := by
  have e : freeze σ.length (σ ++ [l]) (.loc σ.length) = some (.list l) := by
    unfold freeze
    rw [if_pos (Nat.le_refl _), get_snoc]
    simp only [hl, if_true]
  simp only [leaveP, flP, e, List.take_left, h, if_true]
theorem strs_nl (L : List (List Nat)) : noLocs (L.map PV.str) = true := by
  induction L with
  | nil => rfl
  | cons x r ih => simp [noLocs, noLoc, ih]
theorem idx_L {L : List (List Nat)} {r : Nat} (hr : r < L.length) (hL : L.length ≤ 1000) : idxP σ (.list (L.map PV.str)) (.int r) = some (.str L[r]) := by
  refine idx_nat ?_ (by rw [List.length_map]; exact Nat.le_trans hL (by decide))
  rw [List.getElem?_map, List.getElem?_eq_getElem hr]; rfl
theorem idx_snoc {l : List PV} {r : Nat} {v : PV} (hr : l[r]? = some v) (hl : l.length ≤ 1000) : idxP (σ ++ [l]) (.loc σ.length) (.int r) = some v := by
  have h1 : r < l.length := (List.getElem?_eq_some_iff.mp hr).1
  have h2 : (Int.natAbs (r : Int)) < 2 ^ 62 := by
    have : (1000 : Nat) < 2 ^ 62 := by decide
    simp only [Int.natAbs_natCast]; omega
  simp only [idxP, h2, if_true, get_snoc, pyIdx, Int.natCast_nonneg, Int.toNat_natCast, h1, Option.bind_some, hr]
def opsT : List (List Nat) := [[43], [45], [42], [47], [42, 42], [47, 47], [46, 69, 81, 46], [46, 76, 84, 46], [46, 65, 78, 68, 46], [46, 79, 82, 46], [46, 69, 81, 86, 46], [46, 78, 69, 81, 86, 46], [46, 71, 69, 46], [42, 42], [45], [42]]
theorem k_opsL (hσ : σ.all noLocs = true) : callP N (d + 1) 42 [] σ = .ok (.list (opsT.map PV.str), σ) := by
  rw [callP_plain (f := c42) rfl, runFD_args (env := []) rfl rfl]
  unfold c42
  rw [exs_ret (v := .loc σ.length) (env' := []) (σ' := σ ++ [opsT.map PV.str]) (by simp only [eg]; rfl)]
  exact leave_lst (strs_nl _) hσ
theorem k_namesL (hσ : σ.all noLocs = true) : callP N (d + 1) 43 [] σ = .ok (.list (nameL.map PV.str), σ) := by
  rw [callP_plain (f := c43) rfl, runFD_args (env := []) rfl rfl]
  unfold c43
  rw [exs_ret (v := .loc σ.length) (env' := []) (σ' := σ ++ [nameL.map PV.str]) (by simp only [eg]; rfl)]
  exact leave_lst (strs_nl _) hσ
theorem k_textsL (hσ : σ.all noLocs = true) : callP N (d + 1) 44 [] σ = .ok (.list (textL.map PV.str), σ) := by
  rw [callP_plain (f := c44) rfl, runFD_args (env := []) rfl rfl]
  unfold c44
  rw [exs_ret (v := .loc σ.length) (env' := []) (σ' := σ ++ [textL.map PV.str]) (by simp only [eg]; rfl)]
  exact leave_lst (strs_nl _) hσ
def IsLeaf : Tr → Prop
  | .bin _ _ _ | .un _ _ | .ref _ _ | .sub _ _ _ => False
  | _ => True
theorem eqi (a b : Nat) : ((a : Int) = (b : Int)) = (a = b) := by simp only [eq_iff_iff]; omega
theorem k_leaf {way : Nat} (hN : 10 < N) (hX : X.all noLocs = true) (hz : zs.length ≤ 1000) (ha : a + 8 ≤ 1000) : ∃ (t : Tr) (b : Nat), Ok t ∧ IsLeaf t ∧ a ≤ b ∧ b ≤ a + 8 ∧ callP N (d + 4) 48 [.loc 0, .int way] (tau zs X a) = .ok (t.pv, tau zs X b) := by
  rw [callP_plain (f := c48) rfl, runFD_args (env := [some (.loc 0), some (.int way), none, none, none]) rfl rfl]
  unfold c48
  have hτ : ∀ b, (tau zs X b).all noLocs = true := fun b => tau_nl hX
  have w1 : ((way : Int) = 1) = (way = 1) := eqi way 1
  have w2 : ((way : Int) = 2) = (way = 2) := eqi way 2
  have w3 : ((way : Int) = 3) = (way = 3) := eqi way 3
  have w4 : ((way : Int) = 4) = (way = 4) := eqi way 4
  have w5 : ((way : Int) = 5) = (way = 5) := eqi way 5
  have w6 : ((way : Int) = 6) = (way = 6) := eqi way 6
  by_cases h1 : way = 1
  · obtain ⟨r, hr, k⟩ := k_take (N := N) (d := d + 2) (zs := zs) (X := X) (a := a) (n := 1000000000000) (by decide) hX hz (by omega)
    have k : callP N (d + 3) 45 [.loc 0, .int 1000000000000] (tau zs X a) = _ := k
    have hpow : binP .pow (.int 10) (.int 12) = some (.int 1000000000000) := rfl
    refine ⟨.int r, a + 1, ⟨by omega, by omega⟩, trivial, by omega, by omega, ?_⟩
    have w1t : ((way : Int) = 1) = True := by rw [w1]; simp only [h1]
    rw [exs_ret (v := .tup [.str [105, 110, 116], .int r]) (env' := [some (.loc 0), some (.int way), none, none, none]) (σ' := tau zs X (a + 1)) (by simp only [eg, w1t, hpow, k])]
    exact leave_nl (σ := tau zs X (a + 1)) (v := .tup [.str [105, 110, 116], .int r]) rfl (hτ _)
  rw [exs_next (env' := [some (.loc 0), some (.int way), none, none, none]) (σ' := tau zs X a) (by simp only [eg, w1, h1])]
  by_cases h2 : way = 2 ∨ way = 3
  · obtain ⟨m, e, hp, k⟩ := k_pair (N := N) (d := d + 1) (zs := zs) (X := X) (a := a) hN hX hz (by omega)
    have ht : ∀ σ, (ev (callP N (d + 3)) (.bool false (.cons (.cmp .eq (.var 1) (.cst (.int 2))) (.cons (.cmp .eq (.var 1) (.cst (.int 3))) .nil)))).2 [some (.loc 0), some (.int way), none, none, none] σ = .ok (true, σ) := by
      intro σ
      have w2 : ((way : Int) = 2) = (way = 2) := eqi way 2
      by_cases q : way = 2
      · have w2t : ((way : Int) = 2) = True := by rw [w2]; simp only [q]
        simp only [eg, w2t]
      · have w3t : ((way : Int) = 3) = True := by rw [w3]; simp only [show way = 3 by omega]
        simp only [eg, w2, q, w3t]
    have hl : (tau zs X (a + 2)).length = (tau zs X a).length := rfl
    rcases h2 with h2 | h2
    · subst h2
      refine ⟨.real m e, a + 2, ⟨by omega, by simpa using hp⟩, trivial, by omega, by omega, ?_⟩
      have hi := idx_snoc (σ := tau zs X (a + 2)) (l := [PV.str [114, 101, 97, 108], .str [100, 98, 108, 101]]) (r := 0) rfl (by decide)
      have hi : idxP (tau zs X (a + 2) ++ [[PV.str [114, 101, 97, 108], .str [100, 98, 108, 101]]]) (.loc (tau zs X (a + 2)).length) (.int (((2 : Nat) : Int) - 2)) = some (.str [114, 101, 97, 108]) := hi
      rw [exs_ret (v := .tup [.str [114, 101, 97, 108], .int m, .int e]) (env' := [some (.loc 0), some (.int ((2 : Nat) : Int)), some (.int m), some (.int e), none]) (σ' := tau zs X (a + 2) ++ [[PV.str [114, 101, 97, 108], .str [100, 98, 108, 101]]]) (by rw [ex_iff, ht, ok_bind]; simp only [eg, k, hi, List.nil_append])]
      exact leave_more (v := .tup [.str [114, 101, 97, 108], .int m, .int e]) hl.symm rfl (hτ _)
    · subst h2
      refine ⟨.dble m e, a + 2, ⟨by omega, by simpa using hp⟩, trivial, by omega, by omega, ?_⟩
      have hi := idx_snoc (σ := tau zs X (a + 2)) (l := [PV.str [114, 101, 97, 108], .str [100, 98, 108, 101]]) (r := 1) rfl (by decide)
      have hi : idxP (tau zs X (a + 2) ++ [[PV.str [114, 101, 97, 108], .str [100, 98, 108, 101]]]) (.loc (tau zs X (a + 2)).length) (.int (((3 : Nat) : Int) - 2)) = some (.str [100, 98, 108, 101]) := hi
      rw [exs_ret (v := .tup [.str [100, 98, 108, 101], .int m, .int e]) (env' := [some (.loc 0), some (.int ((3 : Nat) : Int)), some (.int m), some (.int e), none]) (σ' := tau zs X (a + 2) ++ [[PV.str [114, 101, 97, 108], .str [100, 98, 108, 101]]]) (by rw [ex_iff, ht, ok_bind]; simp only [eg, k, hi, List.nil_append])]
      exact leave_more (v := .tup [.str [100, 98, 108, 101], .int m, .int e]) hl.symm rfl (hτ _)
  obtain ⟨h2, h3⟩ := not_or.mp h2
  rw [exs_next (env' := [some (.loc 0), some (.int way), none, none, none]) (σ' := tau zs X a) (by simp only [eg, w2, w3, h2, h3])]
  by_cases h4 : way = 4
  · obtain ⟨r, hr, k⟩ := k_take (N := N) (d := d + 2) (zs := zs) (X := X) (a := a) (n := 2) (by decide) hX hz (by omega)
    have k : callP N (d + 3) 45 [.loc 0, .int 2] (tau zs X a) = _ := k
    have w4t : ((way : Int) = 4) = True := by rw [w4]; simp only [h4]
    refine ⟨.log (decide ((r : Int) = 1)), a + 1, trivial, trivial, by omega, by omega, ?_⟩
    rw [exs_ret (v := .tup [.str [108, 111, 103], .bool (decide ((r : Int) = 1))]) (env' := [some (.loc 0), some (.int way), none, none, none]) (σ' := tau zs X (a + 1)) (by simp only [eg, w4t, k])]
    exact leave_nl (σ := tau zs X (a + 1)) (v := .tup [.str [108, 111, 103], .bool _]) rfl (hτ _)
  rw [exs_next (env' := [some (.loc 0), some (.int way), none, none, none]) (σ' := tau zs X a) (by simp only [eg, w4, h4])]
  by_cases h5 : way = 5
  · obtain ⟨r, hr, k⟩ := k_take (N := N) (d := d + 2) (zs := zs) (X := X) (a := a) (n := 8) (by decide) hX hz (by omega)
    have k : callP N (d + 3) 45 [.loc 0, .int 8] (tau zs X a) = _ := k
    have kl := k_textsL (N := N) (d := d + 2) (hτ a)
    have hi := idx_L (σ := tau zs X (a + 1)) (L := textL) (r := r) hr (by decide)
    have w5t : ((way : Int) = 5) = True := by rw [w5]; simp only [h5]
    refine ⟨.chr textL[r], a + 1, List.getElem_mem _, trivial, by omega, by omega, ?_⟩
    rw [exs_ret (v := .tup [.str [99, 104, 97, 114], .str textL[r]]) (env' := [some (.loc 0), some (.int way), none, none, none]) (σ' := tau zs X (a + 1)) (by simp only [eg, w5t, k, kl, hi])]
    exact leave_nl (σ := tau zs X (a + 1)) (v := .tup [.str [99, 104, 97, 114], .str _]) rfl (hτ _)
  rw [exs_next (env' := [some (.loc 0), some (.int way), none, none, none]) (σ' := tau zs X a) (by simp only [eg, w5, h5])]
  by_cases h6 : way = 6
  · obtain ⟨x, b, hx, b1, b2, k1⟩ := k_partT (N := N) (d := d) (zs := zs) (X := X) (a := a) hN hX hz (by omega)
    obtain ⟨y, c, hy, c1, c2, k2⟩ := k_partT (N := N) (d := d) (zs := zs) (X := X) (a := b) hN hX hz (by omega)
    have w6t : ((way : Int) = 6) = True := by rw [w6]; simp only [h6]
    refine ⟨.cplx x y, c, ⟨hx, hy⟩, trivial, by omega, by omega, ?_⟩
    rw [exs_ret (v := .tup [.str [99, 112, 108, 120], x.pv, y.pv]) (env' := [some (.loc 0), some (.int way), none, none, some x.pv]) (σ' := tau zs X c) (by simp only [eg, w6t, k1, k2])]
    exact leave_nl (σ := tau zs X c) (v := .tup [.str [99, 112, 108, 120], x.pv, y.pv]) (by simp [noLoc, noLocs, Num.pv_nl]) (hτ _)
  rw [exs_next (env' := [some (.loc 0), some (.int way), none, none, none]) (σ' := tau zs X a) (by simp only [eg, w6, h6])]
  obtain ⟨r, hr, k⟩ := k_take (N := N) (d := d + 2) (zs := zs) (X := X) (a := a) (n := 6) (by decide) hX hz (by omega)
  have k : callP N (d + 3) 45 [.loc 0, .int 6] (tau zs X a) = _ := k
  have kl := k_namesL (N := N) (d := d + 2) (hτ a)
  have hi := idx_L (σ := tau zs X (a + 1)) (L := nameL) (r := r) hr (by decide)
  refine ⟨.nam nameL[r], a + 1, List.getElem_mem _, trivial, by omega, by omega, ?_⟩
  rw [exs_ret (v := .tup [.str [110, 97, 109, 101], .str nameL[r]]) (env' := [some (.loc 0), some (.int way), none, none, none]) (σ' := tau zs X (a + 1)) (by simp only [eg, k, kl, hi])]
  exact leave_nl (σ := tau zs X (a + 1)) (v := .tup [.str [110, 97, 109, 101], .str _]) rfl (hτ _)
end
end Mine
namespace Mine
open PySem
/-! how large a tree may be -/
def Wk : Nat → Nat
  | 0 => 10
  | k + 1 => 2 * Wk k + 32
def Lk : Nat → Nat
  | 0 => 300
  | k + 1 => 2 * Lk k + 1000
def Ak : Nat → Nat
  | 0 => 10
  | k + 1 => 2 * Ak k + 30
theorem Wk_ge : ∀ k, 10 ≤ Wk k
  | 0 => Nat.le_refl _
  | k + 1 => by have := Wk_ge k; rw [Wk]; omega
theorem Lk_ge : ∀ k, 300 ≤ Lk k
  | 0 => Nat.le_refl _
  | k + 1 => by have := Lk_ge k; rw [Lk]; omega
theorem Ak_ge : ∀ k, 10 ≤ Ak k
  | 0 => Nat.le_refl _
  | k + 1 => by have := Ak_ge k; rw [Ak]; omega
structure Good (k : Nat) (t : Tr) : Prop where
  ok : Ok t
  w : wl (lx t) + (if bindT t < 10 then 6 else 0) ≤ Wk k
  len : (txs (lx t)).length ≤ Lk k
  tl : tall t ≤ 5 + 4 * k
  dp : (toD t.pv).depth ≤ 2 + 3 * k
theorem txs_one (x : Lx) : txs [x] = x.tok.tx := by simp [txs, Lx.tx]
theorem name_len : ∀ s ∈ nameL, s.length ≤ 6 := by decide
theorem ops_len : ∀ s ∈ opsL, s.length ≤ 6 := by decide
theorem texts_len2 : ∀ s ∈ textL, s.length ≤ 6 := by decide
theorem wl_num (a : Num) : wl a.lx ≤ 2 := by
  cases a <;> simp only [Num.lx] <;> split <;> first | exact Nat.le_refl 2 | exact Nat.zero_le _
theorem num_depth (a : Num) : (toD a.pv).depth = 1 := by
  cases a <;> simp [Num.pv, toD, toDs, PyData.depth, PyData.depthAll]
theorem good_leaf {t : Tr} (ok : Ok t) (h : IsLeaf t) (k : Nat) : Good k t := by
  have w0 := Wk_ge k
  have l0 := Lk_ge k
  match t, ok, h with
  | .nam s, ok, _ =>
    refine ⟨ok, ?_, ?_, ?_, ?_⟩
    · show 0 + 0 ≤ _; omega
    · rw [lx, txs_one]; have := name_len s ok; show s.length ≤ _; omega
    · show 5 ≤ _; omega
    · simp [Tr.pv, toD, toDs, PyData.depth, PyData.depthAll]; omega
  | .int i, ok, _ =>
    refine ⟨ok, ?_, ?_, ?_, ?_⟩
    · show 0 + 0 ≤ _; omega
    · rw [lx, txs_one]
      unfold Ok at ok
      have : (dg i.toNat).length ≤ 12 := dg_len _ 11 (by omega)
      show (intText (i.toNat : Int)).length ≤ _
      rw [intText_nat]; omega
    · show 5 ≤ _; omega
    · simp [Tr.pv, toD, toDs, PyData.depth, PyData.depthAll]; omega
  | .real m e, ok, _ =>
    refine ⟨ok, ?_, ?_, ?_, ?_⟩
    · show 0 + 0 ≤ _; omega
    · rw [lx, txs_one]
      unfold Ok at ok
      have := showPair_len (c := 69) ok.2
      show (showPair m.toNat e 69).length ≤ _; omega
    · show 5 ≤ _; omega
    · simp [Tr.pv, toD, toDs, PyData.depth, PyData.depthAll]; omega
  | .dble m e, ok, _ =>
    refine ⟨ok, ?_, ?_, ?_, ?_⟩
    · show 0 + 0 ≤ _; omega
    · rw [lx, txs_one]
      unfold Ok at ok
      have := showPair_len (c := 68) ok.2
      show (showPair m.toNat e 68).length ≤ _; omega
    · show 5 ≤ _; omega
    · simp [Tr.pv, toD, toDs, PyData.depth, PyData.depthAll]; omega
  | .log b, ok, _ =>
    refine ⟨ok, ?_, ?_, ?_, ?_⟩
    · show 0 + 0 ≤ _; omega
    · rw [lx, txs_one]
      have : (Tok.log b).tx.length ≤ 7 := by cases b <;> decide
      show (Tok.log b).tx.length ≤ _; omega
    · show 5 ≤ _; omega
    · simp [Tr.pv, toD, toDs, PyData.depth, PyData.depthAll]; omega
  | .chr s, ok, _ =>
    refine ⟨ok, ?_, ?_, ?_, ?_⟩
    · show 0 + 0 ≤ _; omega
    · rw [lx, txs_one]
      have := texts_len2 s ok
      have h2 := dbl39_len s
      show (39 :: (dbl39 s ++ [39])).length ≤ _
      simp; omega
    · show 5 ≤ _; omega
    · simp [Tr.pv, toD, toDs, PyData.depth, PyData.depthAll]; omega
  | .cplx a b, ok, _ =>
    have h1 := wl_num a
    have h2 := wl_num b
    have ok' := ok
    unfold Ok at ok'
    have l1 := (k_num (N := 0) (d := 0) ok'.1).2
    have l2 := (k_num (N := 0) (d := 0) ok'.2).2
    refine ⟨ok, ?_, ?_, ?_, ?_⟩
    · rw [lx, wl, wl_app, wl, wl_app, wl_rp, wl_lp, wl_cm]
      show _ + 0 ≤ _; omega
    · rw [lx]
      simp [txs, txs_app, Lx.tx, Lx.tok, Tok.tx]; omega
    · show 5 ≤ _; omega
    · simp [Tr.pv, toD, toDs, PyData.depth, PyData.depthAll, num_depth]
theorem wl_wrap {t : Tr} {j : Nat} (hj : j ≤ 10) : wl (wrap (decide (bindT t < j)) (lx t)) ≤ wl (lx t) + (if bindT t < 10 then 6 else 0) := by
  by_cases h : bindT t < j
  · rw [decide_eq_true h, wl_t, if_pos (by omega)]; omega
  · rw [decide_eq_false h]; exact Nat.le_add_right _ _
theorem len_wrap {b : Bool} {l : List Lx} : (txs (wrap b l)).length ≤ (txs l).length + 2 := by
  rw [txs_wrap]
  cases b with
  | false => simp
  | true => simp
theorem leftB_le (s : List Nat) : leftB (prioS s) ≤ 10 := by
  have := prioS_le s
  unfold leftB; split <;> (try split) <;> omega
theorem rightB_le (s : List Nat) : rightB (prioS s) ≤ 10 := by
  have := prioS_le s
  unfold rightB; split <;> omega
theorem unB_le (s : List Nat) : unB s ≤ 10 := by unfold unB; split <;> omega
theorem six_le (t : Tr) : (if bindT t < 10 then 6 else 0) ≤ 6 := by split <;> omega
theorem good_bin {k : Nat} {op : List Nat} {l r : Tr} (ho : op ∈ opsL) (hl : Good k l) (hr : Good k r) : Good (k + 1) (.bin op l r) := by
  refine ⟨⟨ho, hl.ok, hr.ok⟩, ?_, ?_, ?_, ?_⟩
  · have a1 := wl_wrap (t := l) (leftB_le op)
    have a2 := wl_wrap (t := r) (rightB_le op)
    have a3 := hl.w
    have a4 := hr.w
    have a5 := six_le (.bin op l r)
    have a6 : wT (Lx.o op).tok = 2 := wT_bin (ops_prio ho)
    rw [lx, wl_app, wl, Wk]; omega
  · have a1 := len_wrap (b := decide (bindT l < leftB (prioS op))) (l := lx l)
    have a2 := len_wrap (b := decide (bindT r < rightB (prioS op))) (l := lx r)
    have a3 := hl.len
    have a4 := hr.len
    have a5 := ops_len op ho
    rw [lx, txs_app, Lk]
    simp only [txs, Lx.tx, Lx.tok, Tok.tx, List.length_append]; omega
  · have a3 := hl.tl
    have a4 := hr.tl
    rw [tall]; omega
  · have a3 := hl.dp
    have a4 := hr.dp
    simp only [Tr.pv, toD, toDs, PyData.depth, PyData.depthAll]; omega
theorem good_un {k : Nat} {op : List Nat} {l : Tr} (ho : op = tNOT ∨ op = tPL ∨ op = tMI) (hl : Good k l) : Good (k + 1) (.un op l) := by
  refine ⟨⟨ho, hl.ok⟩, ?_, ?_, ?_, ?_⟩
  · have a1 := wl_wrap (t := l) (unB_le op)
    have a3 := hl.w
    have a5 := six_le (.un op l)
    have a6 : wT (Lx.o op).tok = 2 := wT_un ho
    rw [lx, wl, Wk]; omega
  · have a1 := len_wrap (b := decide (bindT l < unB op)) (l := lx l)
    have a3 := hl.len
    have a5 : op.length ≤ 6 := by rcases ho with rfl | rfl | rfl <;> decide
    rw [lx, Lk]
    simp only [txs, Lx.tx, Lx.tok, Tok.tx, List.length_append]; omega
  · have a3 := hl.tl
    rw [tall]; omega
  · have a3 := hl.dp
    simp only [Tr.pv, toD, toDs, PyData.depth, PyData.depthAll]; omega
def GS (k : Nat) : Trs → Prop
  | .nil => True
  | .cons t r => Good k t ∧ GS k r
structure GA (k : Nat) (as : Trs) : Prop where
  ok : Oks as
  w : wl (row as) ≤ 2 * Wk k
  len : (txs (row as)).length ≤ 2 * Lk k + 1
  tl : tallS as ≤ 5 + 4 * k
  dp : PyData.depthAll (toDs as.pvs) ≤ 2 + 3 * k
theorem good_args {k : Nat} {as : Trs} (h : GS k as) (h2 : lenT as ≤ 2) : GA k as := by
  match as, h, h2 with
  | .nil, _, _ =>
    refine ⟨trivial, ?_, ?_, ?_, ?_⟩
    · exact Nat.zero_le _
    · exact Nat.zero_le _
    · show 5 ≤ _; omega
    · show 0 ≤ _; omega
  | .cons t .nil, h, _ =>
    have a1 := h.1.w
    have a2 := h.1.len
    have a3 := h.1.tl
    have a4 := h.1.dp
    refine ⟨⟨h.1.ok, trivial⟩, ?_, ?_, ?_, ?_⟩
    · rw [row, rowT, List.append_nil]; omega
    · rw [row, rowT, List.append_nil]; omega
    · rw [tallS, tallS]; omega
    · simp only [Trs.pvs, toDs, PyData.depthAll]; omega
  | .cons t (.cons t2 .nil), h, _ =>
    have a1 := h.1.w
    have a2 := h.1.len
    have a3 := h.1.tl
    have a4 := h.1.dp
    have b1 := h.2.1.w
    have b2 := h.2.1.len
    have b3 := h.2.1.tl
    have b4 := h.2.1.dp
    refine ⟨⟨h.1.ok, h.2.1.ok, trivial⟩, ?_, ?_, ?_, ?_⟩
    · rw [row, rowT, rowT, List.append_nil, wl_app, wl, wl_cm]; omega
    · rw [row, rowT, rowT, List.append_nil, txs_app]
      simp only [txs, Lx.tx, Lx.tok, Tok.tx, List.length_append, List.length_cons, List.length_nil]; omega
    · rw [tallS, tallS, tallS]; omega
    · simp only [Trs.pvs, toDs, PyData.depthAll]; omega
  | .cons _ (.cons _ (.cons _ _)), _, h2 => simp [lenT] at h2
theorem ref_facts {k : Nat} {s : List Nat} {as : Trs} (hs : s ∈ nameL) (h : GA k as) : Ok (.ref s as) ∧ wl (lx (.ref s as)) ≤ 6 + 2 * Wk k ∧ (txs (lx (.ref s as))).length ≤ 2 * Lk k + 9 ∧ tall (.ref s as) ≤ 7 + 4 * k ∧ (toD (Tr.ref s as).pv).depth ≤ 4 + 3 * k := by
  have a1 := h.w
  have a2 := h.len
  have a3 := h.tl
  have a4 := h.dp
  have a5 := name_len s hs
  refine ⟨⟨hs, h.ok⟩, ?_, ?_, ?_, ?_⟩
  · rw [lx, wl, wl, wl_lpA, wl_app, wl_rp]
    show 0 + _ ≤ _; omega
  · rw [lx]
    simp only [txs, txs_app, Lx.tx, Lx.tok, Tok.tx, List.length_append, List.length_cons, List.length_nil]; omega
  · rw [tall]; omega
  · simp only [Tr.pv, toD, toDs, PyData.depth, PyData.depthAll]; omega
theorem good_ref {k : Nat} {s : List Nat} {as : Trs} (hs : s ∈ nameL) (h : GA k as) : Good (k + 1) (.ref s as) := by
  obtain ⟨h1, h2, h3, h4, h5⟩ := ref_facts hs h
  refine ⟨h1, ?_, ?_, ?_, ?_⟩
  · show _ + 0 ≤ _; rw [Wk]; omega
  · rw [Lk]; omega
  · omega
  · omega
def GO (k : Nat) : TrO → Prop
  | .none => True
  | .some t => Good k t
theorem go_facts {k : Nat} {o : TrO} (h : GO k o) : OkO o ∧ wl (lxO o) ≤ Wk k ∧ (txs (lxO o)).length ≤ Lk k ∧ tallO o ≤ 5 + 4 * k ∧ (toD o.pv).depth ≤ 2 + 3 * k := by
  cases o with
  | none => exact ⟨trivial, Nat.zero_le _, Nat.zero_le _, (by show 5 ≤ _; omega), (by show 0 ≤ _; omega)⟩
  | some t => exact ⟨h.ok, Nat.le_trans (Nat.le_add_right _ _) h.w, h.len, h.tl, h.dp⟩
/-- what an element stands on -/
structure GB (b : Tr) : Prop where
  ok : Ok b
  base : IsBase b
  w : wl (lx b) ≤ 26
  len : (txs (lx b)).length ≤ 700
  tl : tall b ≤ 7
  dp : (toD b.pv).depth ≤ 4
theorem gb_nam {s : List Nat} (hs : s ∈ nameL) : GB (.nam s) := by
  refine ⟨hs, trivial, ?_, ?_, ?_, ?_⟩
  · show 0 ≤ _; omega
  · rw [lx, txs_one]; have := name_len s hs; show s.length ≤ _; omega
  · show 5 ≤ _; omega
  · simp [Tr.pv, toD, toDs, PyData.depth, PyData.depthAll]
theorem gb_ref {s : List Nat} {as : Trs} (hs : s ∈ nameL) (h : GA 0 as) : GB (.ref s as) := by
  obtain ⟨h1, h2, h3, h4, h5⟩ := ref_facts hs h
  refine ⟨h1, trivial, ?_, ?_, ?_, ?_⟩
  · rw [Wk] at h2; omega
  · rw [Lk] at h3; omega
  · omega
  · omega
theorem good_sub {k : Nat} {b : Tr} {lo hi : TrO} (hb : GB b) (h1 : GO k lo) (h2 : GO k hi) : Good (k + 1) (.sub b lo hi) := by
  obtain ⟨a1, a2, a3, a4, a5⟩ := go_facts h1
  obtain ⟨b1, b2, b3, b4, b5⟩ := go_facts h2
  have c1 := hb.w
  have c2 := hb.len
  have c3 := hb.tl
  have c4 := hb.dp
  refine ⟨⟨hb.base, hb.ok, a1, b1⟩, ?_, ?_, ?_, ?_⟩
  · show _ + 0 ≤ _
    rw [lx, wl_app, wl, wl_lpA, wl_app, wl, wl_cl, wl_app, wl_rp, Wk]; omega
  · rw [lx, Lk]
    simp only [txs, txs_app, Lx.tx, Lx.tok, Tok.tx, List.length_append, List.length_cons, List.length_nil]; omega
  · rw [tall]; omega
  · simp only [Tr.pv, toD, toDs, PyData.depth, PyData.depthAll]; omega
end Mine
namespace Mine
open PySem
section
variable {N : Nat} {zs : List Int}
theorem idx_Lx {L : List (List Nat)} {r n : Nat} (hr : r < n) (hn : L.length = n) (hL : n ≤ 1000) : ∃ s, s ∈ L ∧ ∀ σ, idxP σ (.list (L.map PV.str)) (.int r) = some (.str s) := by
  subst hn
  exact ⟨L[r], List.getElem_mem _, fun σ => idx_L hr hL⟩
/-- the def _law_tree, to a depth -/
def TB (N : Nat) (zs : List Int) (k : Nat) : Prop := ∀ (d a : Nat) (X : Store), 10 + 4 * k ≤ d → X.all noLocs = true → a + Ak k ≤ 1000 → ∃ (t : Tr) (b : Nat), Good k t ∧ a ≤ b ∧ b ≤ a + Ak k ∧ callP N d 51 [.loc 0, .int k] (tau zs X a) = .ok (t.pv, tau zs X b)
theorem ex_one {v : PV} {C : Nat → List PV → Store → Out (PV × Store)} {env : Env'} {σ σ' : Store} {e : PE} {r : PSs} (h : (ev C e).1 env σ = .ok (v, σ')) : exs C N (.cons (.ret e) r) env σ = .ok (.ret v, env, σ') :=
  exs_ret (by rw [ex_ret, h]; rfl)
theorem k_endT {k d a : Nat} {X : Store} (T : TB N zs k) (hz : zs.length ≤ 1000) (hd : 10 + 4 * k ≤ d) (hX : X.all noLocs = true) (ha : a + 1 + Ak k ≤ 1000) : ∃ (o : TrO) (b : Nat), GO k o ∧ a ≤ b ∧ b ≤ a + 1 + Ak k ∧ callP N (d + 1) 49 [.loc 0, .int k] (tau zs X a) = .ok (o.pv, tau zs X b) := by
  rw [callP_plain (f := c49) rfl, runFD_args (env := [some (.loc 0), some (.int k)]) rfl rfl]
  unfold c49
  obtain ⟨d, rfl⟩ : ∃ e, d = e + 1 := ⟨d - 1, by omega⟩
  obtain ⟨r, hr, k1⟩ := k_take (N := N) (d := d) (zs := zs) (X := X) (a := a) (n := 2) (by decide) hX hz (by omega)
  have k1 : callP N (d + 1) 45 [.loc 0, .int 2] (tau zs X a) = _ := k1
  by_cases h0 : r = 0
  · subst h0
    have hz0 : ((((0 : Nat) : Int)) = 0) = True := by simp
    refine ⟨.none, a + 1, trivial, by omega, by omega, ?_⟩
    rw [exs_ret (v := .none) (env' := [some (.loc 0), some (.int k)]) (σ' := tau zs X (a + 1)) (by simp only [eg, k1, hz0])]
    exact leave_nl (σ := tau zs X (a + 1)) (v := .none) rfl (tau_nl hX)
  · have hne : ((r : Int) = 0) = False := by simp only [eq_iff_iff, iff_false]; omega
    obtain ⟨t, b, g, b1, b2, k2⟩ := T (d + 1) (a + 1) X hd hX (by omega)
    refine ⟨.some t, b, g, by omega, by omega, ?_⟩
    rw [exs_next (env' := [some (.loc 0), some (.int k)]) (σ' := tau zs X (a + 1)) (by simp only [eg, k1, hne])]
    rw [exs_ret (v := t.pv) (env' := [some (.loc 0), some (.int k)]) (σ' := tau zs X b) (by simp only [eg, k2])]
    exact leave_nl (σ := tau zs X b) (v := t.pv) (Tr.pv_nl _) (tau_nl hX)
theorem map_trees {k d : Nat} {X : Store} (T : TB N zs k) (hd : 10 + 4 * k ≤ d) (hX : X.all noLocs = true) : ∀ (l : List PV) (a : Nat), a + l.length * Ak k ≤ 1000 → ∃ (as : Trs) (b : Nat), GS k as ∧ lenT as = l.length ∧ a ≤ b ∧ b ≤ a + l.length * Ak k ∧ mapC (fun _ σ => callP N d 51 [.loc 0, .int k] σ) l (tau zs X a) = .ok (as.pvs, tau zs X b)
  | [], a, _ => ⟨.nil, a, trivial, rfl, Nat.le_refl _, by simp, rfl⟩
  | v :: l, a, ha => by
    rw [List.length_cons, Nat.succ_mul] at ha
    obtain ⟨t, b, g, b1, b2, k1⟩ := T d a X hd hX (by omega)
    obtain ⟨as, c, gs, hl, c1, c2, k2⟩ := map_trees T hd hX l b (by omega)
    refine ⟨.cons t as, c, ⟨g, gs⟩, by rw [lenT, hl, List.length_cons], by omega, by rw [List.length_cons, Nat.succ_mul]; omega, ?_⟩
    rw [mapC, k1]
    dsimp only
    rw [k2]
    rfl
theorem k_refT {k d a : Nat} {X : Store} (T : TB N zs k) (hz : zs.length ≤ 1000) (hd : 10 + 4 * k ≤ d) (hX : X.all noLocs = true) (ha : a + 2 + 2 * Ak k ≤ 1000) : ∃ (s : List Nat) (as : Trs) (b : Nat), s ∈ nameL ∧ GA k as ∧ a ≤ b ∧ b ≤ a + 2 + 2 * Ak k ∧ callP N (d + 1) 50 [.loc 0, .int k] (tau zs X a) = .ok ((Tr.ref s as).pv, tau zs X b) := by
  have hτ : ∀ b, (tau zs X b).all noLocs = true := fun b => tau_nl hX
  obtain ⟨e, rfl⟩ : ∃ e, d = e + 1 := ⟨d - 1, by omega⟩
  obtain ⟨r, hr, k1⟩ := k_take (N := N) (d := e) (zs := zs) (X := X) (a := a) (n := 6) (by decide) hX hz (by omega)
  obtain ⟨q, hq, k2⟩ := k_take (N := N) (d := e) (zs := zs) (X := X) (a := a + 1) (n := 3) (by decide) hX hz (by omega)
  have k1 : callP N (e + 1) 45 [.loc 0, .int 6] (tau zs X a) = _ := k1
  have k2 : callP N (e + 1) 45 [.loc 0, .int 3] (tau zs X (a + 1)) = .ok (.int q, tau zs X (a + 2)) := k2
  have kl := k_namesL (N := N) (d := e) (hτ a)
  obtain ⟨s, hs, hi⟩ := idx_Lx (L := nameL) hr rfl (by decide)
  have hm : q * Ak k ≤ 2 * Ak k := Nat.mul_le_mul_right _ (by omega)
  have hlt : (turns q).length = q := by simp [turns]
  obtain ⟨as, b, gs, hl, b1, b2, k3⟩ := map_trees (k := k) (d := e + 1) T hd hX (turns q) (a + 2) (by rw [hlt]; omega)
  rw [hlt] at b2 hl
  refine ⟨s, as, b, hs, good_args gs (by omega), by omega, by omega, ?_⟩
  conv => lhs; unfold callP
  rw [if_neg (by decide), if_neg (by decide), if_pos rfl]
  unfold refP refX
  dsimp only
  have hn : namesF (callP N (e + 1)) 43 45 (.loc 0) [none] (tau zs X a) = .ok (.str s, tau zs X (a + 1)) := by
    unfold namesF
    simp only [ok_bind, kl, k1, hi, liftO_some]
  rw [hn]
  simp only [ok_bind]
  have hc : compF (callP N (e + 1)) 45 51 (.loc 0) (.int k) [some (.str s)] (tau zs X (a + 1)) = .ok (.list as.pvs, tau zs X b) := by
    unfold compF
    rw [k2]
    dsimp only
    rw [if_pos (by omega), Int.toNat_natCast, k3]
  have ht : tupF (callP N (e + 1)) 45 51 (.loc 0) (.int k) [some (.str s)] (tau zs X (a + 1)) = .ok ([.str [114, 101, 102], .str s, .list as.pvs], tau zs X b) := by
    unfold tupF
    simp only [ev_cst, ev_var, getD0, liftO_some, ok_bind, hc]
  rw [show ([none] : Env').set 0 (some (.str s)) = [some (.str s)] from rfl, ht]
  simp only [ok_bind]
  have hle := leave_nl (σ := tau zs X b) (v := .tup [.str [114, 101, 102], .str s, .list as.pvs]) (by simp [noLoc, noLocs, Trs.pvs_nl]) (hτ b)
  rw [show (tau zs X a).length = (tau zs X b).length from rfl, hle]
  rfl
theorem signs_mem (r : Nat) (h : r < 3) : ∃ op, ([[45], [43], [46, 78, 79, 84, 46]] : List (List Nat))[r]? = some op ∧ (op = tNOT ∨ op = tPL ∨ op = tMI) := by
  match r, h with
  | 0, _ => exact ⟨_, rfl, .inr (.inr rfl)⟩
  | 1, _ => exact ⟨_, rfl, .inr (.inl rfl)⟩
  | 2, _ => exact ⟨_, rfl, .inl rfl⟩
theorem opsT_mem : ∀ op ∈ opsT, op ∈ opsL := by decide
theorem tree0 (hN : 10 < N) (hz : zs.length ≤ 1000) : TB N zs 0 := by
  intro d a X hd hX ha
  rw [Ak] at ha ⊢
  obtain ⟨d, rfl⟩ : ∃ e, d = e + 5 := ⟨d - 5, by omega⟩
  obtain ⟨r, hr, k1⟩ := k_take (N := N) (d := d + 3) (zs := zs) (X := X) (a := a) (n := 8) (by decide) hX hz (by omega)
  have k1 : callP N (d + 4) 45 [.loc 0, .int 8] (tau zs X a) = _ := k1
  obtain ⟨t, b, ok, hl, b1, b2, k2⟩ := k_leaf (N := N) (d := d) (way := r) (zs := zs) (X := X) (a := a + 1) hN hX hz (by omega)
  refine ⟨t, b, good_leaf ok hl 0, by omega, by omega, ?_⟩
  rw [callP_plain (f := c51) rfl, runFD_args (env := [some (.loc 0), some (.int ((0 : Nat) : Int)), none, none, none, none, none, none]) rfl rfl]
  unfold c51
  have hg : ((0 : Int) < ((0 : Nat) : Int)) = False := by simp
  have hw : ((r : Int) < 8) = True := by simp only [eq_iff_iff, iff_true]; omega
  rw [exs_next (env' := [some (.loc 0), some (.int ((0 : Nat) : Int)), some (.int r), none, none, none, none, none]) (σ' := tau zs X (a + 1)) (by simp only [eg, hg, k1])]
  rw [exs_ret (v := t.pv) (env' := [some (.loc 0), some (.int ((0 : Nat) : Int)), some (.int r), none, none, none, none, none]) (σ' := tau zs X b) (by simp only [eg, hw, k2])]
  exact leave_nl (σ := tau zs X b) (v := t.pv) (Tr.pv_nl _) (tau_nl hX)
theorem treeS {k : Nat} (hN : 10 < N) (hz : zs.length ≤ 1000) (T0 : TB N zs 0) (T : TB N zs k) : TB N zs (k + 1) := by
  intro d a X hd hX ha
  rw [Ak] at ha ⊢
  have hAk := Ak_ge k
  have hτ : ∀ b, (tau zs X b).all noLocs = true := fun b => tau_nl hX
  obtain ⟨d, rfl⟩ : ∃ e, d = e + 5 := ⟨d - 5, by omega⟩
  obtain ⟨r, hr, k1⟩ := k_take (N := N) (d := d + 3) (zs := zs) (X := X) (a := a) (n := 16) (by decide) hX hz (by omega)
  have k1 : callP N (d + 4) 45 [.loc 0, .int 16] (tau zs X a) = _ := k1
  rw [callP_plain (f := c51) rfl, runFD_args (env := [some (.loc 0), some (.int ((k + 1 : Nat) : Int)), none, none, none, none, none, none]) rfl rfl]
  unfold c51
  have hg : ((0 : Int) < ((k + 1 : Nat) : Int)) = True := by simp only [eq_iff_iff, iff_true]; omega
  rw [exs_next (env' := [some (.loc 0), some (.int ((k + 1 : Nat) : Int)), some (.int r), none, none, none, none, none]) (σ' := tau zs X (a + 1)) (by simp only [eg, hg, k1])]
  have e8 : ((r : Int) < 8) = (r < 8) := by simp only [eq_iff_iff]; omega
  have e12 : ((r : Int) = 12) = (r = 12) := by simp only [eq_iff_iff]; omega
  have e13 : ((r : Int) = 13) = (r = 13) := by simp only [eq_iff_iff]; omega
  have e14 : ((r : Int) = 14) = (r = 14) := by simp only [eq_iff_iff]; omega
  by_cases h8 : r < 8
  · obtain ⟨t, b, ok, hl, b1, b2, k2⟩ := k_leaf (N := N) (d := d) (way := r) (zs := zs) (X := X) (a := a + 1) hN hX hz (by omega)
    refine ⟨t, b, good_leaf ok hl _, by omega, by omega, ?_⟩
    rw [exs_ret (v := t.pv) (env' := [some (.loc 0), some (.int ((k + 1 : Nat) : Int)), some (.int r), none, none, none, none, none]) (σ' := tau zs X b) (by simp only [eg, e8, h8, k2])]
    exact leave_nl (σ := tau zs X b) (v := t.pv) (Tr.pv_nl _) (hτ b)
  rw [exs_next (env' := [some (.loc 0), some (.int ((k + 1 : Nat) : Int)), some (.int r), none, none, none, none, none]) (σ' := tau zs X (a + 1)) (by simp only [eg, e8, h8])]
  by_cases h12 : r = 12
  · have e12t : ((r : Int) = 12) = True := by rw [e12]; simp only [h12]
    have hX' : (X ++ [[PV.str [45], .str [43], .str [46, 78, 79, 84, 46]]]).all noLocs = true := by rw [List.all_append, hX]; rfl
    obtain ⟨q, hq, k2⟩ := k_take (N := N) (d := d + 3) (zs := zs) (X := X ++ [[PV.str [45], .str [43], .str [46, 78, 79, 84, 46]]]) (a := a + 1) (n := 3) (by decide) hX' hz (by omega)
    obtain ⟨op, ho, hop⟩ := signs_mem q hq
    have k2 : callP N (d + 4) 45 [.loc 0, .int 3] (tau zs X (a + 1) ++ [[PV.str [45], .str [43], .str [46, 78, 79, 84, 46]]]) = .ok (.int q, tau zs X (a + 2) ++ [[PV.str [45], .str [43], .str [46, 78, 79, 84, 46]]]) := k2
    have hi : idxP (tau zs X (a + 2) ++ [[PV.str [45], .str [43], .str [46, 78, 79, 84, 46]]]) (.loc (tau zs X (a + 1)).length) (.int q) = some (.str op) := by
      refine idx_snoc (σ := tau zs X (a + 2)) (l := [PV.str [45], .str [43], .str [46, 78, 79, 84, 46]]) (r := q) ?_ (by decide)
      have := congrArg (Option.map PV.str) ho
      rw [← List.getElem?_map] at this
      exact this
    obtain ⟨t, b, g, b1, b2, k3⟩ := T (d + 4) (a + 2) (X ++ [[PV.str [45], .str [43], .str [46, 78, 79, 84, 46]]]) (by omega) hX' (by omega)
    have k3 : callP N (d + 4) 51 [.loc 0, .int k] (tau zs X (a + 2) ++ [[PV.str [45], .str [43], .str [46, 78, 79, 84, 46]]]) = .ok (t.pv, tau zs X b ++ [[PV.str [45], .str [43], .str [46, 78, 79, 84, 46]]]) := k3
    refine ⟨.un op t, b, good_un hop g, by omega, by omega, ?_⟩
    rw [exs_ret (v := .tup [.str [117, 110], .str op, t.pv]) (env' := [some (.loc 0), some (.int ((k + 1 : Nat) : Int)), some (.int r), some (.str op), none, none, none, none]) (σ' := tau zs X b ++ [[PV.str [45], .str [43], .str [46, 78, 79, 84, 46]]]) (by
      rw [ex_iff, tr_cmp]
      simp only [eg, e12t, k2, hi, cs1, k3])]
    exact leave_more (σ := tau zs X b) (v := .tup [.str [117, 110], .str op, t.pv]) rfl (by simp [noLoc, noLocs, Tr.pv_nl]) (hτ b)
  rw [exs_next (env' := [some (.loc 0), some (.int ((k + 1 : Nat) : Int)), some (.int r), none, none, none, none, none]) (σ' := tau zs X (a + 1)) (by simp only [eg, e12, h12])]
  by_cases h13 : r = 13
  · have e13t : ((r : Int) = 13) = True := by rw [e13]; simp only [h13]
    obtain ⟨s, as, b, hs, g, b1, b2, k2⟩ := k_refT (k := k) (d := d + 3) (a := a + 1) (X := X) T hz (by omega) hX (by omega)
    refine ⟨.ref s as, b, good_ref hs g, by omega, by omega, ?_⟩
    rw [exs_ret (v := (Tr.ref s as).pv) (env' := [some (.loc 0), some (.int ((k + 1 : Nat) : Int)), some (.int r), none, none, none, none, none]) (σ' := tau zs X b) (by simp only [eg, e13t, cs1, k2])]
    exact leave_nl (σ := tau zs X b) (v := (Tr.ref s as).pv) (Tr.pv_nl _) (hτ b)
  rw [exs_next (env' := [some (.loc 0), some (.int ((k + 1 : Nat) : Int)), some (.int r), none, none, none, none, none]) (σ' := tau zs X (a + 1)) (by simp only [eg, e13, h13])]
  by_cases h14 : r = 14
  · have e14t : ((r : Int) = 14) = True := by rw [e14]; simp only [h14]
    obtain ⟨q, hq, k2⟩ := k_take (N := N) (d := d + 3) (zs := zs) (X := X) (a := a + 1) (n := 6) (by decide) hX hz (by omega)
    have k2 : callP N (d + 4) 45 [.loc 0, .int 6] (tau zs X (a + 1)) = .ok (.int q, tau zs X (a + 2)) := k2
    obtain ⟨q2, hq2, k3⟩ := k_take (N := N) (d := d + 3) (zs := zs) (X := X) (a := a + 2) (n := 2) (by decide) hX hz (by omega)
    have k3 : callP N (d + 4) 45 [.loc 0, .int 2] (tau zs X (a + 2)) = .ok (.int q2, tau zs X (a + 3)) := k3
    have kl := k_namesL (N := N) (d := d + 3) (hτ (a + 1))
    obtain ⟨nm, hnm, hi⟩ := idx_Lx (L := nameL) hq rfl (by decide)
    -- the base
    have hbase : ∃ (bs : Tr) (b : Nat), GB bs ∧ a + 3 ≤ b ∧ b ≤ a + 25 ∧ ex (callP N (d + 4)) N (.iff (.cmp .eq (.call 45 (.cons (.var 0) (.cons (.cst (.int 2)) .nil))) (.cst (.int 1))) (.cons (.asg 4 (.call 50 (.cons (.var 0) (.cons (.cst (.int 0)) .nil)))) .nil) .nil) [some (.loc 0), some (.int ((k + 1 : Nat) : Int)), some (.int r), none, some (Tr.nam nm).pv, none, none, none] (tau zs X (a + 2)) = .ok (.next, [some (.loc 0), some (.int ((k + 1 : Nat) : Int)), some (.int r), none, some bs.pv, none, none, none], tau zs X b) := by
      by_cases h1 : q2 = 1
      · have e1t : ((q2 : Int) = 1) = True := by simp only [eq_iff_iff, iff_true]; omega
        obtain ⟨s, as, b, hs, g, b1, b2, k4⟩ := k_refT (k := 0) (d := d + 3) (a := a + 3) (X := X) T0 hz (by omega) hX (by rw [Ak]; omega)
        have k4 : callP N (d + 4) 50 [.loc 0, .int 0] (tau zs X (a + 3)) = _ := k4
        rw [Ak] at b2
        exact ⟨.ref s as, b, gb_ref hs g, b1, by omega, by simp only [eg, k3, e1t, k4]⟩
      · have e1f : ((q2 : Int) = 1) = False := by simp only [eq_iff_iff, iff_false]; omega
        exact ⟨.nam nm, a + 3, gb_nam hnm, Nat.le_refl _, by omega, by simp only [eg, k3, e1f]⟩
    obtain ⟨bs, b, gb, b1, b2, k4⟩ := hbase
    obtain ⟨lo, c, gl, c1, c2, k5⟩ := k_endT (k := k) (d := d + 3) (a := b) (X := X) T hz (by omega) hX (by omega)
    obtain ⟨hi', c', gh, d1, d2, k6⟩ := k_endT (k := k) (d := d + 3) (a := c) (X := X) T hz (by omega) hX (by omega)
    refine ⟨.sub bs lo hi', c', good_sub gb gl gh, by omega, by omega, ?_⟩
    rw [exs_ret (v := .tup [.str [115, 117, 98], bs.pv, lo.pv, hi'.pv]) (env' := [some (.loc 0), some (.int ((k + 1 : Nat) : Int)), some (.int r), none, some bs.pv, some lo.pv, none, none]) (σ' := tau zs X c') (by
      rw [iff_t (σ' := tau zs X (a + 1)) (by simp only [eg, e14t])]
      rw [exs_next (env' := [some (.loc 0), some (.int ((k + 1 : Nat) : Int)), some (.int r), none, some (Tr.nam nm).pv, none, none, none]) (σ' := tau zs X (a + 2)) (by simp only [eg, kl, k2, hi, Tr.pv])]
      rw [exs_next k4]
      rw [exs_next (env' := [some (.loc 0), some (.int ((k + 1 : Nat) : Int)), some (.int r), none, some bs.pv, some lo.pv, none, none]) (σ' := tau zs X c) (by simp only [eg, cs1, k5])]
      rw [ex_one (v := .tup [.str [115, 117, 98], bs.pv, lo.pv, hi'.pv]) (σ' := tau zs X c') (by simp only [eg, cs1, k6])])]
    exact leave_nl (σ := tau zs X c') (v := .tup [.str [115, 117, 98], bs.pv, lo.pv, hi'.pv]) (by simp [noLoc, noLocs, Tr.pv_nl, TrO.pv_nl]) (hτ c')
  rw [exs_next (env' := [some (.loc 0), some (.int ((k + 1 : Nat) : Int)), some (.int r), none, none, none, none, none]) (σ' := tau zs X (a + 1)) (by simp only [eg, e14, h14])]
  obtain ⟨q, hq, k2⟩ := k_take (N := N) (d := d + 3) (zs := zs) (X := X) (a := a + 1) (n := 16) (by decide) hX hz (by omega)
  have k2 : callP N (d + 4) 45 [.loc 0, .int 16] (tau zs X (a + 1)) = .ok (.int q, tau zs X (a + 2)) := k2
  have kl := k_opsL (N := N) (d := d + 3) (hτ (a + 1))
  obtain ⟨op, hop, hi⟩ := idx_Lx (L := opsT) hq rfl (by decide)
  obtain ⟨l, b, gl, b1, b2, k3⟩ := T (d + 4) (a + 2) X (by omega) hX (by omega)
  obtain ⟨rr, c, gr, c1, c2, k4⟩ := T (d + 4) b X (by omega) hX (by omega)
  refine ⟨.bin op l rr, c, good_bin (opsT_mem _ hop) gl gr, by omega, by omega, ?_⟩
  rw [exs_next (env' := [some (.loc 0), some (.int ((k + 1 : Nat) : Int)), some (.int r), none, none, none, some (.str op), none]) (σ' := tau zs X (a + 2)) (by simp only [eg, kl, k2, hi])]
  rw [exs_next (env' := [some (.loc 0), some (.int ((k + 1 : Nat) : Int)), some (.int r), none, none, none, some (.str op), some l.pv]) (σ' := tau zs X b) (by simp only [eg, cs1, k3])]
  rw [exs_ret (v := .tup [.str [98, 105, 110], .str op, l.pv, rr.pv]) (env' := [some (.loc 0), some (.int ((k + 1 : Nat) : Int)), some (.int r), none, none, none, some (.str op), some l.pv]) (σ' := tau zs X c) (by simp only [eg, cs1, k4])]
  exact leave_nl (σ := tau zs X c) (v := .tup [.str [98, 105, 110], .str op, l.pv, rr.pv]) (by simp [noLoc, noLocs, Tr.pv_nl]) (hτ c)
theorem tree_all (hN : 10 < N) (hz : zs.length ≤ 1000) : ∀ k, TB N zs k
  | 0 => tree0 hN hz
  | k + 1 => treeS hN hz (tree0 hN hz) (tree_all hN hz k)
end
end Mine
namespace Mine
open PySem
theorem minus_eq {A B C : List Lx} : minus (txs (A ++ .o tLP :: (B ++ .o tRP :: C))) (txs A).length (txs (A ++ .o tLP :: B)).length = txs (A ++ (B ++ C)) := by
  have e1 : txs (A ++ .o tLP :: (B ++ .o tRP :: C)) = (txs A ++ ([40] ++ txs B)) ++ ([41] ++ txs C) := by simp [txs, txs_app, Lx.tx, Lx.tok, Tok.tx]
  have e2 : txs (A ++ .o tLP :: B) = txs A ++ ([40] ++ txs B) := by simp [txs, txs_app, Lx.tx, Lx.tok, Tok.tx]
  rw [e1, e2]
  unfold minus
  have h1 : ((txs A ++ ([40] ++ txs B)) ++ ([41] ++ txs C)).take (txs A).length = txs A := by rw [List.append_assoc]; exact List.take_left
  have h2 : (((txs A ++ ([40] ++ txs B)) ++ ([41] ++ txs C)).take (txs A ++ ([40] ++ txs B)).length).drop ((txs A).length + 1) = txs B := by
    rw [List.take_left, ← List.drop_drop, List.drop_left]; rfl
  have h3 : ((txs A ++ ([40] ++ txs B)) ++ ([41] ++ txs C)).drop ((txs A ++ ([40] ++ txs B)).length + 1) = txs C := by
    rw [← List.drop_drop, List.drop_left]; rfl
  rw [h1, h2, h3]
  simp [txs_app]
theorem Wk3 : Wk 3 = 304 := rfl
theorem Lk3 : Lk 3 = 9400 := rfl
theorem Ak3 : Ak 3 = 290 := rfl
theorem szL_big : 1000000 < szL := by decide
theorem read_of {xs : List Lx} {o : Out (Tr × Toks)} (hx : Lexb xs) (hl : (txs xs).length ≤ 9500) (ho : pB 317 1 (posd 0 xs) = o) (hn : o ≠ .stuck) : readP (callP 100000 320) (txs xs) = match o with
    | .ok q => (match q.2 with | [] => some q.1.pv | _ :: _ => some .none)
    | .exc => some .none
    | .stuck => none := by
  have hs := szL_big
  have hlen := lexb_len hx
  have k1 : callP 100000 320 9 [.str (txs xs)] [] = .ok (tkL (posd 0 xs), []) := k_lex (d := 314) hx (by omega) (by omega)
  have hpl : (posd 0 xs).length = xs.length := posd_len xs 0
  have k2 : callP 100000 320 41 [tkL (posd 0 xs)] [] = _ := k_whole (N := 100000) (n := 317) (d := 319) (ts := posd 0 xs) (by omega) (by omega) (by omega) (by rw [ho]; exact hn)
  rw [ho] at k2
  unfold readP
  rw [k1, ok_bind]
  dsimp only
  rw [k2]
  cases o with
  | stuck => exact absurd rfl hn
  | exc => rfl
  | ok q =>
    obtain ⟨t, r⟩ := q
    cases r with
    | nil =>
      dsimp only
      rw [if_pos (Tr.pv_nl t)]
    | cons p r => rfl
theorem eqv_none (t : Tr) : PyData.eqv (toD .none) (toD t.pv) = false := by
  obtain ⟨l, e⟩ := toD_shape t
  rw [e]
  simp [toD, PyData.eqv]
theorem law_facts (zs : List Int) (hz : zs.length ≤ 1000) : LawFacts (callP 100000 320) zs := by
  have hz' : (zs.take 40).length ≤ 1000 := by rw [List.length_take]; omega
  obtain ⟨t, b, g, _, _, k51⟩ := tree_all (N := 100000) (zs := zs.take 40) (by decide) hz' 3 320 0 [] (by decide) rfl (by rw [Ak3]; decide)
  have hs := szL_big
  have gw := g.w
  have gl := g.len
  have gt := g.tl
  have gd := g.dp
  rw [Wk3] at gw
  rw [Lk3] at gl
  have hw : wl (lx t) ≤ 304 := by omega
  have ok := g.ok
  have hx := lexb_lx ok
  have hxl := lexb_len hx
  have hall := ok_lx t ok
  have hch := (px t ok (.o tLP) (opn_op (by decide))).1
  have hbal : BalL 0 (lx t) := by
    have := bx_lx t ok 0 [] trivial
    rw [List.append_nil] at this
    exact this
  obtain ⟨prs, k52, hpl, hpr⟩ := k_pairs (N := 100000) (d := 319) hall hch hbal hx (by omega)
  have rb : pB 317 1 (posd 0 (lx t)) = .ok (t, []) := read_back ok (m := 311) (by omega)
  have r0 := read_of hx (by omega) rb nofun
  refine ⟨t.pv, t.pv, txs (lx t), prs, _, k51, Tr.pv_nl t, Tr.pl t, by omega, k_list t ok 320 (by omega) (by omega), r0, Tr.pl t, self_eq _, k52, by omega, by omega, fun p hp => ?_⟩
  obtain ⟨A, B, C, e, e1, e2⟩ := hpr p hp
  have hlt : (txs A).length < (txs (A ++ .o tLP :: B)).length := by
    simp [txs, txs_app, Lx.tx, Lx.tok, Tok.tx]
  have hlt2 : (txs (A ++ .o tLP :: B)).length < (txs (lx t)).length := by
    rw [e]
    simp [txs, txs_app, Lx.tx, Lx.tok, Tok.tx]
  refine ⟨by rw [e1, e2]; exact hlt, by rw [e2]; exact hlt2, ?_⟩
  rw [e1, e2]
  have hm : minus (txs (lx t)) (txs A).length (txs (A ++ .o tLP :: B)).length = txs (A ++ (B ++ C)) := by rw [e]; exact minus_eq
  rw [hm]
  have hlx : Lexb (A ++ (B ++ C)) := lexb_less (by rw [← e]; exact hch) (by rw [← e]; exact hall)
  have hopl : opl (A ++ (B ++ C)) + 1 = opl (lx t) := by
    rw [e, opl_app, opl_app, opl_app, opl, opl_app, opl]
    show _ = _ + (1 + (_ + (0 + _)))
    omega
  have hwl : wl (A ++ (B ++ C)) ≤ wl (lx t) := by
    rw [e, wl_app, wl_app, wl_app, wl, wl_app, wl]; omega
  have hlen : (txs (A ++ (B ++ C))).length ≤ (txs (lx t)).length := by
    rw [e]
    simp [txs, txs_app, Lx.tx, Lx.tok, Tok.tx]
    omega
  have hns : pB 317 1 (posd 0 (A ++ (B ++ C))) ≠ .stuck := pB_ne 317 1 _ (by decide) (by rw [wt_posd]; omega)
  cases hq : pB 317 1 (posd 0 (A ++ (B ++ C))) with
  | stuck => exact absurd hq hns
  | exc => exact ⟨.none, read_of hlx (by omega) hq nofun, rfl, eqv_none t⟩
  | ok q =>
    obtain ⟨r, rest⟩ := q
    cases rest with
    | nil =>
      refine ⟨r.pv, read_of hlx (by omega) hq nofun, Tr.pl r, eqv_ne ?_⟩
      exact read_other ok hq (by rw [opens_posd]; omega)
    | cons x rest => exact ⟨.none, read_of hlx (by omega) hq nofun, rfl, eqv_none t⟩
end Mine
theorem PySem.Challenge.cw_no0268_01_holds : PySem.Challenge.rw_no0268_01.Holds :=
  Mine.fin Mine.law_facts
