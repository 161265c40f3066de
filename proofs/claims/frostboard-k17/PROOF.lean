import PyProof.Rows.All
import Wide.All
import OpenK.AllK
import Wide.FinOn
import HandS.ForMost
import HandS.ForExc
import HandS.ExcCtx
import HandS.Deep
import HandS.Wide
import HandS.TupAny
import HandS.IsInst
import HandS.Lambda
import KE.DataFind
import KE.GoesEnum
import HandS.HeadHook4
import KE.DataCmp
import HandS.TupMul
import HandS.Style
import HandS.More
import HandS.HeadWalk
import HandS.Head0
import HandS.Head1
import HandS.Head2
import HandS.HeadEnd
import KE.KStateDown
import PySem.Challenge.RW_frostboard_k17_whole_rows
set_option Elab.async false
set_option linter.all false
set_option maxRecDepth 100000
set_option maxHeartbeats 0
/-! Plain data and what the program's pieces do with them: no program in sight. -/
namespace FB
inductive D where
  | non | bl (b : Bool) | int (i : Int) | str (s : List Nat) | lst (xs : List D) | tup (xs : List D) | fz (ns : List Int)
  deriving Inhabited
mutual
def D.eqv : D → D → Bool
  | .non, .non => true
  | .bl a, .bl b => a == b
  | .bl a, .int j => (if a then 1 else 0) == j
  | .int i, .bl b => i == (if b then 1 else 0)
  | .int i, .int j => i == j
  | .str x, .str y => x == y
  | .lst xs, .lst ys => D.eqvL xs ys
  | .tup xs, .tup ys => D.eqvL xs ys
  | _, _ => false
def D.eqvL : List D → List D → Bool
  | [], [] => true
  | x :: xs, y :: ys => D.eqv x y && D.eqvL xs ys
  | _, _ => false
end
mutual
def D.dep : D → Nat
  | .lst xs => D.depL xs + 1
  | .tup xs => D.depL xs + 1
  | .fz _ => 100
  | _ => 0
def D.depL : List D → Nat
  | [] => 0
  | x :: xs => max (D.dep x) (D.depL xs)
end
/-- a slot of a frame: without a value, a datum that stays, a list of one's own that may change, a list of the caller's that may change -/
inductive Sl where
  | un | dat (d : D) | own (xs : List D) | bor (xs : List D)
abbrev En := List Sl
/-- a run: a value and the slots; an exception of class c; nothing is promised -/
inductive R (α : Type) where
  | ok (a : α) (r : En) | exc (c : Nat) (r : En) | bad
abbrev M (α : Type) := En → R α
def R.andThen {α β : Type} (x : R α) (f : α → En → R β) : R β := match x with
  | .ok a r => f a r
  | .exc c r => .exc c r
  | .bad => .bad
def R.lift {α : Type} (o : Option α) (r : En) : R α := match o with
  | some a => .ok a r
  | none => .bad
/-- what a def gives -/
inductive Ro where
  | ok (d : D) | exc (c : Nat) | bad
/-- what a def gives that got a list to change -/
inductive Rw where
  | ok (d : D) (xs : List D) | exc (c : Nat) (xs : List D) | bad
inductive Fl where
  | nx | ret (d : D)
/-! ### operations -/
def lim : Nat := 100000
def pyEq (d e : D) : Option Bool := match d, e with
  | .fz ns, .lst [] => some ns.isEmpty
  | d, e => if d.dep ≤ 60 ∧ e.dep ≤ 60 then some (D.eqv d e) else none
def opEq (d e : D) : Option D := (pyEq d e).map .bl
def opNe (d e : D) : Option D := (pyEq d e).map fun b => .bl (!b)
def opAdd : D → D → Option D
  | .int i, .int j => some (.int (i + j))
  | .str a, .str b => if a.length + b.length ≤ lim then some (.str (a ++ b)) else none
  | .lst a, .lst b => if a.length + b.length ≤ lim then some (.lst (a ++ b)) else none
  | .tup a, .tup b => if a.length + b.length ≤ lim then some (.tup (a ++ b)) else none
  | _, _ => none
def opIadd : D → D → Option D
  | .int i, .int j => some (.int (i + j))
  | .str a, .str b => if a.length + b.length ≤ lim then some (.str (a ++ b)) else none
  | _, _ => none
def opSub : D → D → Option D
  | .int i, .int j => some (.int (i - j))
  | _, _ => none
def mulOk (i j : Int) : Bool := Nat.ble j.natAbs.log2 62 || (Nat.ble i.natAbs.log2 62 || Nat.ble (i.natAbs.log2 + j.natAbs.log2) 900000)
def opMul : D → D → Option D
  | .int i, .int j => if mulOk i j then some (.int (i * j)) else none
  | .str x, .int k => if -1000 ≤ k ∧ k ≤ 1000 ∧ x.length ≤ 100 then some (.str (List.replicate k.toNat x).flatten) else none
  | .lst x, .int k => if -1000 ≤ k ∧ k ≤ 1000 ∧ x.length ≤ 100 then some (.lst (List.replicate k.toNat x).flatten) else none
  | .tup x, .int k => if x.isEmpty = false ∧ 2 ≤ k ∧ k ≤ 1000 ∧ x.length ≤ 100 then some (.tup (List.replicate k.toNat x).flatten) else none
  | _, _ => none
def opFdiv : D → D → Option D
  | .int i, .int j => if 0 < j ∧ j.natAbs.log2 < 9000 then some (.int (i / j)) else none
  | _, _ => none
def opMod : D → D → Option D
  | .int i, .int j => if 0 < j then some (.int (i % j)) else none
  | _, _ => none
def opPow : D → D → Option D
  | .int i, .int j => if 0 ≤ j ∧ j ≤ 1000000 ∧ i.natAbs < 18446744073709551616 then some (.int (i ^ j.toNat)) else none
  | _, _ => none
def opNeg : D → Option D
  | .int i => some (.int (-i))
  | _ => none
/-! ### order -/
abbrev Tok' := Int ⊕ List Nat
mutual
def D.toks : D → List Tok'
  | .non => []
  | .bl b => [.inl (if b then 1 else 0)]
  | .int n => [.inl n]
  | .str x => [.inr x]
  | .lst xs => D.toksL xs
  | .tup xs => D.toksL xs
  | .fz _ => []
def D.toksL : List D → List Tok'
  | [] => [.inl 0]
  | x :: xs => .inl 1 :: (D.toks x ++ D.toksL xs)
end
def natsLt : List Nat → List Nat → Bool
  | [], [] => false
  | [], _ :: _ => true
  | _ :: _, [] => false
  | a :: x, b :: y => decide (a < b) || (a == b && natsLt x y)
def tokLt : Tok' → Tok' → Bool
  | .inl a, .inl b => decide (a < b)
  | .inl _, .inr _ => true
  | .inr _, .inl _ => false
  | .inr a, .inr b => natsLt a b
def toksLt : List Tok' → List Tok' → Bool
  | [], [] => false
  | [], _ :: _ => true
  | _ :: _, [] => false
  | x :: r, y :: t => tokLt x y || (!tokLt y x && toksLt r t)
mutual
def D.alike : D → D → Bool
  | .non, .non => true
  | .bl _, .bl _ => true
  | .int _, .int _ => true
  | .str _, .str _ => true
  | .lst xs, .lst ys => D.alikeL xs ys
  | .tup xs, .tup ys => D.alikeL xs ys
  | _, _ => false
def D.alikeL : List D → List D → Bool
  | x :: xs, y :: ys => D.alike x y && D.alikeL xs ys
  | [], _ => true
  | _ :: _, [] => true
end
def D.lt (x y : D) : Bool := toksLt x.toks y.toks
def D.isNon : D → Bool
  | .non => true
  | _ => false
def ltOk (d e : D) : Bool := D.alike d e && !d.isNon && decide (d.dep ≤ 60) && decide (e.dep ≤ 60)
def opLt : D → D → Option D
  | .int i, .int j => some (.bl (decide (i < j)))
  | d, e => if ltOk d e then some (.bl (D.lt d e)) else none
def opGt : D → D → Option D
  | .int i, .int j => some (.bl (decide (j < i)))
  | d, e => if ltOk d e then some (.bl (D.lt e d)) else none
def opLe : D → D → Option D
  | .int i, .int j => some (.bl (decide (i ≤ j)))
  | _, _ => none
def opGe : D → D → Option D
  | .int i, .int j => some (.bl (decide (j ≤ i)))
  | _, _ => none
/-- a sign in a text -/
def opInS : D → D → Option D
  | .str [c], .str s => some (.bl (decide (c ∈ s)))
  | _, _ => none
/-- data in a list or tuple -/
def inB (d : D) : D → Option Bool
  | .lst xs => if d.dep ≤ 60 ∧ D.dep (.lst xs) ≤ 60 then some (xs.any fun z => D.eqv z d) else none
  | .tup xs => if d.dep ≤ 60 ∧ D.dep (.tup xs) ≤ 60 then some (xs.any fun z => D.eqv z d) else none
  | _ => none
def opIn (d e : D) : Option D := (inB d e).map .bl
def opNotIn (d e : D) : Option D := (inB d e).map fun b => .bl (!b)
def atD {α : Type} (xs : List α) (i : Int) : Option α :=
  if 0 ≤ i then xs[i.toNat]? else if -(xs.length : Int) ≤ i then xs[(i + xs.length).toNat]? else none
def opIx : D → D → Option D
  | .lst xs, .int i => atD xs i
  | .tup xs, .int i => atD xs i
  | .str s, .int i => (atD s i).map fun c => .str [c]
  | .fz ns, .int i => (atD ns i).map .int
  | _, _ => none
/-- where a slice's edge stands -/
def sIx (n dflt : Nat) : Option Int → Nat
  | none => dflt
  | some i => if 0 ≤ i then min i.toNat n else (i + n).toNat
def cut {α : Type} (xs : List α) (lo hi : Option Int) : List α := (xs.drop (sIx xs.length 0 lo)).take (sIx xs.length xs.length hi - sIx xs.length 0 lo)
def opSl (lo hi : Option Int) : D → Option D
  | .str s => some (.str (cut s lo hi))
  | .lst xs => some (.lst (cut xs lo hi))
  | .tup xs => some (.tup (cut xs lo hi))
  | _ => none
def opRevSL : D → Option D
  | .str s => some (.str s.reverse)
  | .lst xs => some (.lst xs.reverse)
  | _ => none
def tabO : D → Option D
  | .str [35] => some (.str [46])
  | .str [46] => some (.str [35])
  | .str [42] => some (.str [111])
  | .str [111] => some (.str [42])
  | _ => none
/-! ### built-in functions -/
def bLen : List D → Option D
  | [.str s] => some (.int s.length)
  | [.lst xs] => some (.int xs.length)
  | [.tup xs] => some (.int xs.length)
  | [.fz ns] => some (.int ns.length)
  | _ => none
def bTuple : List D → Option D
  | [.lst xs] => some (.tup xs)
  | [.tup xs] => some (.tup xs)
  | _ => none
def bMax : List D → Option D
  | [.int i, .int j] => some (.int (if j > i then j else i))
  | _ => none
def bMin : List D → Option D
  | [.int i, .int j] => some (.int (if j < i then j else i))
  | _ => none
def bls : List D → Option (List Bool)
  | [] => some []
  | .bl b :: r => (bls r).map (b :: ·)
  | _ => none
def strsD : List D → Option (List (List Nat))
  | [] => some []
  | .str s :: r => (strsD r).map (s :: ·)
  | _ => none
def bAll : List D → Option D
  | [.lst xs] => (bls xs).map fun bs => .bl (bs.all id)
  | _ => none
def isTy (t : Nat) : D → Option D
  | .non => some (.bl false)
  | .bl _ => some (.bl (t == 0 || t == 1))
  | .int _ => some (.bl (t == 0))
  | .str _ => some (.bl (t == 2))
  | .tup _ => some (.bl (t == 3))
  | .lst _ => some (.bl false)
  | .fz _ => none
/-- sep.join(list) -/
def joinL (sep : List Nat) : List (List Nat) → List Nat
  | [] => []
  | [x] => x
  | x :: r => x ++ sep ++ joinL sep r
def mJoin : D → D → Option D
  | .str a, .lst xs => (strsD xs).bind fun ss => if (joinL a ss).length ≤ lim ∧ ss.length ≤ lim ∧ a.length ≤ 10 then some (.str (joinL a ss)) else none
  | .str a, .tup xs => (strsD xs).bind fun ss => if (joinL a ss).length ≤ lim ∧ ss.length ≤ lim ∧ a.length ≤ 10 then some (.str (joinL a ss)) else none
  | _, _ => none
def notOwn : Option Sl → Bool
  | some (.own _) => false
  | some (.bor _) => false
  | _ => true
/-! ### expressions -/
def eV (i : Nat) : M D := fun r => match r[i]? with
  | some (.dat d) => .ok d r
  | _ => .bad
def eC (d : D) : M D := fun r => .ok d r
def e1 (f : D → Option D) (a : M D) : M D := fun r => (a r).andThen fun x r1 => .lift (f x) r1
def e2 (f : D → D → Option D) (a b : M D) : M D := fun r => (a r).andThen fun x r1 => (b r1).andThen fun y r2 => .lift (f x y) r2
/-- a < b < c -/
def eCh (f g : D → D → Option D) (a b c : M D) : M D := fun r => (a r).andThen fun x r1 => (b r1).andThen fun y r2 => match f x y with
  | some (.bl true) => (c r2).andThen fun z r3 => .lift (g y z) r3
  | some (.bl false) => .ok (.bl false) r2
  | _ => .bad
def aN : M (List D) := fun r => .ok [] r
def aC (a : M D) (as : M (List D)) : M (List D) := fun r => (a r).andThen fun x r1 => (as r1).andThen fun xs r2 => .ok (x :: xs) r2
def eTup (as : M (List D)) : M D := fun r => (as r).andThen fun xs r1 => .ok (.tup xs) r1
def eLst (as : M (List D)) : M D := fun r => (as r).andThen fun xs r1 => .ok (.lst xs) r1
def eB (f : List D → Option D) (as : M (List D)) : M D := fun r => (as r).andThen fun xs r1 => .lift (f xs) r1
def eCall (f : List D → Ro) (as : M (List D)) : M D := fun r => (as r).andThen fun xs r1 => match f xs with
  | .ok d => .ok d r1
  | .exc c => .exc c r1
  | .bad => .bad
/-- f(x, ..), x a list of the caller's -/
def eCallO (f : List D → List D → Rw) (i : Nat) (as : M (List D)) : M D := fun r => match r[i]? with
  | some (.bor _) => (as r).andThen fun xs r1 => (match r1[i]? with
    | some (.bor ys) => (match f ys xs with
      | .ok d zs => .ok d (r1.set i (.bor zs))
      | .exc c zs => .exc c (r1.set i (.bor zs))
      | .bad => .bad)
    | _ => .bad)
  | _ => .bad
/-- x[e], x a list of one's own -/
def eIxO (i : Nat) (a : M D) : M D := fun r => if notOwn r[i]? then .bad else (a r).andThen fun x r1 => match r1[i]?, x with
  | some (.own ys), .int j => .lift (atD ys j) r1
  | some (.bor ys), .int j => .lift (atD ys j) r1
  | _, _ => .bad
/-- an edge of a slice -/
abbrev Eg := M (Option Int)
def gNo : Eg := fun r => .ok none r
def gSo (a : M D) : Eg := fun r => (a r).andThen fun x r1 => match x with
  | .int i => .ok (some i) r1
  | _ => .bad
def eSl (a : M D) (lo hi : Eg) : M D := fun r => (a r).andThen fun x r1 => (lo r1).andThen fun l r2 => (hi r2).andThen fun u r3 => .lift (opSl l u x) r3
def tV (a : M D) : M Bool := fun r => (a r).andThen fun x r1 => match x with
  | .bl b => .ok b r1
  | _ => .bad
def tAn (a b : M Bool) : M Bool := fun r => (a r).andThen fun x r1 => if x then b r1 else .ok false r1
def tOr (a b : M Bool) : M Bool := fun r => (a r).andThen fun x r1 => if x then .ok true r1 else b r1
def tNo (a : M Bool) : M Bool := fun r => (a r).andThen fun x r1 => .ok (!x) r1
def tY : M Bool := fun r => .ok true r
def eAn (a b : M D) : M D := fun r => (a r).andThen fun x r1 => match x with
  | .bl true => b r1
  | .bl false => .ok (.bl false) r1
  | _ => .bad
def eIf (c : M Bool) (a b : M D) : M D := fun r => (c r).andThen fun x r1 => if x then a r1 else b r1
/-! ### targets, what is walked -/
abbrev Tg := D → En → Option En
def gN (i : Nat) : Tg := fun d r => some (r.set i (.dat d))
def setAll : List Nat → List D → En → En
  | i :: is, x :: xs, r => setAll is xs (r.set i (.dat x))
  | _, _, r => r
def gT (is : List Nat) : Tg := fun d r => match d with
  | .tup xs => if xs.length = is.length then some (setAll is xs r) else none
  | _ => none
def iL (a : M D) : M (List D) := fun r => (a r).andThen fun x r1 => match x with
  | .lst xs => .ok xs r1
  | _ => .bad
def iT (a : M D) : M (List D) := fun r => (a r).andThen fun x r1 => match x with
  | .tup xs => .ok xs r1
  | _ => .bad
def iS (a : M D) : M (List D) := fun r => (a r).andThen fun x r1 => match x with
  | .str s => .ok (s.map fun c => .str [c]) r1
  | _ => .bad
def iRange1 (as : M (List D)) : M (List D) := fun r => (as r).andThen fun xs r1 => match xs with
  | [.int n] => if n ≤ 100000 ∧ -100000 ≤ n then .ok ((List.range n.toNat).map fun i => .int (i : Nat)) r1 else .bad
  | _ => .bad
def iRange2 (as : M (List D)) : M (List D) := fun r => (as r).andThen fun xs r1 => match xs with
  | [.int a, .int b] => if a ≤ 100000 ∧ -100000 ≤ a ∧ b ≤ 100000 ∧ -100000 ≤ b then .ok ((List.range (b - a).toNat).map fun i => .int (a + (i : Nat))) r1 else .bad
  | _ => .bad
def iEnum (it : M (List D)) : M (List D) := fun r => (it r).andThen fun xs r1 => .ok (xs.mapIdx fun i x => .tup [.int (i : Nat), x]) r1
/-! ### comprehensions -/
def wipeE : List Nat → En → En
  | [], r => r
  | v :: vs, r => (wipeE vs r).set v .un
def backE : List Nat → En → En → En
  | [], _, r => r
  | v :: vs, r0, r => (backE vs r0 r).set v (r0.getD v .un)
def lcGo (tg : Tg) (tt : M Bool) (te : M D) (vs : List Nat) : List D → List D → En → R (List D)
  | [], acc, r => .ok acc r
  | x :: xs, acc, r => match tg x r with
    | none => .bad
    | some r1 => (tt r1).andThen fun b r2 => if b then (te r2).andThen fun y r3 => lcGo tg tt te vs xs (acc ++ [y]) (wipeE vs r3) else lcGo tg tt te vs xs acc (wipeE vs r2)
def eLc (it : M (List D)) (tg : Tg) (tt : M Bool) (te : M D) (vs : List Nat) : M D := fun r => (it r).andThen fun xs r1 =>
  if (vs.all fun i => notOwn (r1[i]?)) ∧ xs.length ≤ lim then (match lcGo tg tt te vs xs [] (wipeE vs r1) with
    | .ok ys r2 => .ok (.lst ys) (backE vs r1 r2)
    | _ => .bad)
  else .bad
/-! ### statements -/
def sSet (i : Nat) (a : M D) : M Fl := fun r => (a r).andThen fun x r1 => .ok .nx (r1.set i (.dat x))
def sAsg (g : Tg) (a : M D) : M Fl := fun r => (a r).andThen fun x r1 => match g x r1 with
  | some r2 => .ok .nx r2
  | none => .bad
def sPar (i j : Nat) (a b : M D) : M Fl := fun r => (a r).andThen fun x r1 => (b r1).andThen fun y r2 => .ok .nx ((r2.set i (.dat x)).set j (.dat y))
def sAug (f : D → D → Option D) (i : Nat) (a : M D) : M Fl := fun r => match r[i]? with
  | some (.dat x) => (a r).andThen fun y r1 => match f x y with
    | some z => .ok .nx (r1.set i (.dat z))
    | none => .bad
  | _ => .bad
def sRet (a : M D) : M Fl := fun r => (a r).andThen fun x r1 => .ok (.ret x) r1
def sExp (a : M D) : M Fl := fun r => (a r).andThen fun _ r1 => .ok .nx r1
def sNil : M Fl := fun r => .ok .nx r
def sSeq (a b : M Fl) : M Fl := fun r => (a r).andThen fun f r1 => match f with
  | .nx => b r1
  | .ret d => .ok (.ret d) r1
def sIf (c : M Bool) (a b : M Fl) : M Fl := fun r => (c r).andThen fun x r1 => if x then a r1 else b r1
def forGo (tg : Tg) (body : M Fl) : List D → En → R Fl
  | [], r => .ok .nx r
  | x :: xs, r => match tg x r with
    | none => .bad
    | some r1 => (body r1).andThen fun f r2 => match f with
      | .nx => forGo tg body xs r2
      | .ret d => .ok (.ret d) r2
def sFor (it : M (List D)) (tg : Tg) (body : M Fl) : M Fl := fun r => (it r).andThen fun xs r1 => forGo tg body xs r1
def sWhile (c : M Bool) (body : M Fl) : Nat → M Fl
  | 0 => fun _ => .bad
  | n + 1 => fun r => (c r).andThen fun b r1 => if b then (body r1).andThen fun f r2 => match f with
      | .nx => sWhile c body n r2
      | .ret d => .ok (.ret d) r2
    else .ok .nx r1
def sRaise (c : Nat) : M Fl := fun r => .exc c r
/-- x = [a, ..], a list of one's own -/
def sNewL (i : Nat) (as : M (List D)) : M Fl := fun r => (as r).andThen fun xs r1 => .ok .nx (r1.set i (.own xs))
def sApp (i : Nat) (a : M D) : M Fl := fun r => if notOwn r[i]? then .bad else (a r).andThen fun x r1 => match r1[i]? with
  | some (.own ys) => if ys.length < lim then .ok .nx (r1.set i (.own (ys ++ [x]))) else .bad
  | _ => .bad
/-- x[j] = a -/
def sPut (i j : Nat) (a : M D) : M Fl := fun r => (a r).andThen fun x r1 => match r1[i]? with
  | some (.bor ys) => if j < ys.length then .ok .nx (r1.set i (.bor (ys.set j x))) else .bad
  | _ => .bad
/-- from here on the list stays as it is -/
def sFrz (i : Nat) (b : M Fl) : M Fl := fun r => match r[i]? with
  | some (.own ys) => b (r.set i (.dat (.lst ys)))
  | _ => .bad
/-! ### defs -/
def fin0 : R Fl → Ro
  | .ok .nx _ => .ok .non
  | .ok (.ret d) _ => .ok d
  | .exc c _ => .exc c
  | .bad => .bad
def startE (n : Nat) (ds : List D) : En := ds.map .dat ++ List.replicate (n - ds.length) .un
/-- a def of n names, k of them parameters -/
def runD (k n : Nat) (b : M Fl) (ds : List D) : Ro := if ds.length = k then fin0 (b (startE n ds)) else .bad
def finO : R Fl → Rw
  | .ok f r => (match (r[0]? : Option Sl) with
    | some (.bor ys) => (match f with
      | .nx => .ok .non ys
      | .ret d => .ok d ys)
    | _ => .bad)
  | .exc c r => (match (r[0]? : Option Sl) with
    | some (.bor ys) => .exc c ys
    | _ => .bad)
  | .bad => .bad
/-- .. whose first argument is a list that it may change -/
def runO (k n : Nat) (b : M Fl) (xs : List D) (ds : List D) : Rw := if ds.length + 1 = k then finO (b (.bor xs :: startE (n - 1) ds)) else .bad
end FB
/-! The bridge: plain data in the machine's heap. -/
namespace FB
open PySem PySem.Spec L2
abbrev St := L2.St
mutual
inductive Dv (K : PySem.W.Frag) (F : Hp) : V → D → Prop
  | non : Dv K F .non .non
  | bl (b : Bool) : Dv K F (.bl b) (.bl b)
  | int (i : Int) : Dv K F (.int i) (.int i)
  | str (x : Str) : x.cps.size ≤ lim → PyData.strOk x = true → Dv K F (.str x) (.str x.cps.toList)
  | lst {a : Addr} {vs : List V} {ds : List D} : F a = some (.lst vs) → Dvs K F vs ds → Dv K F (.ref a) (.lst ds)
  | tup {a : Addr} {vs : List V} {ds : List D} : F a = some (.tup vs) → Dvs K F vs ds → Dv K F (.ref a) (.tup ds)
  | fz {a : Addr} {ns : List Int} : SqL K F a (ns.map V.int) → Dv K F (.ref a) (.fz ns)
inductive Dvs (K : PySem.W.Frag) (F : Hp) : List V → List D → Prop
  | nil : Dvs K F [] []
  | cons {v : V} {vs : List V} {d : D} {ds : List D} : Dv K F v d → Dvs K F vs ds → Dvs K F (v :: vs) (d :: ds)
end
section
variable {K : PySem.W.Frag} {F F' H : Hp}
mutual
theorem Dv.mono (s : Same F F') : ∀ {v : V} {d : D}, Dv K F v d → Dv K F' v d
  | _, _, .non => .non
  | _, _, .bl b => .bl b
  | _, _, .int i => .int i
  | _, _, .str x h1 h2 => .str x h1 h2
  | _, _, .lst h t => .lst (s _ _ h) (Dvs.mono s t)
  | _, _, .tup h t => .tup (s _ _ h) (Dvs.mono s t)
  | _, _, .fz h => .fz (s.seq h)
theorem Dvs.mono (s : Same F F') : ∀ {vs : List V} {ds : List D}, Dvs K F vs ds → Dvs K F' vs ds
  | _, _, .nil => .nil
  | _, _, .cons h t => .cons (Dv.mono s h) (Dvs.mono s t)
end
theorem Dvs.len : ∀ {vs : List V} {ds : List D}, Dvs K F vs ds → vs.length = ds.length
  | _, _, .nil => rfl
  | _, _, .cons _ t => by rw [List.length_cons, List.length_cons, t.len]
theorem Dvs.get : ∀ {vs : List V} {ds : List D} {i : Nat} {d : D}, Dvs K F vs ds → ds[i]? = some d → ∃ v, vs[i]? = some v ∧ Dv K F v d
  | _, _, _, _, .nil, h => by simp at h
  | _, _, 0, _, .cons h _, e => by
    have e' := Option.some.inj e
    subst e'
    exact ⟨_, rfl, h⟩
  | _, _, i + 1, d, .cons _ t, e => Dvs.get (i := i) (d := d) t e
theorem Dvs.append : ∀ {vs ws : List V} {ds es : List D}, Dvs K F vs ds → Dvs K F ws es → Dvs K F (vs ++ ws) (ds ++ es)
  | _, _, _, _, .nil, h => h
  | _, _, _, _, .cons a t, h => .cons a (t.append h)
theorem Dvs.set : ∀ {vs : List V} {ds : List D} {v : V} {d : D} (j : Nat), Dvs K F vs ds → Dv K F v d → Dvs K F (vs.set j v) (ds.set j d)
  | _, _, _, _, _, .nil, _ => .nil
  | _, _, _, _, 0, .cons _ t, h => .cons h t
  | _, _, _, _, j + 1, .cons a t, h => .cons a (t.set j h)
def D.py : D → PyData
  | .non => .none
  | .bl b => .bool b
  | .int i => .int i
  | .str s => .str ⟨s.toArray⟩
  | .lst xs => .list (go xs)
  | .tup xs => .tuple (go xs)
  | .fz ns => .list (ns.map .int)
where go : List D → List PyData
  | [] => []
  | x :: xs => D.py x :: go xs
theorem fzAll : ∀ (ns : List Int), DpAll K H (ns.map V.int) (ns.map PyData.int)
  | [] => .nil
  | n :: r => .cons (.int n) (fzAll r)
theorem py_str (x : Str) : (D.str x.cps.toList).py = .str x := by
  show PyData.str ⟨x.cps.toList.toArray⟩ = .str x
  rw [Array.toArray_toList]
mutual
theorem Dv.dp (s : Same F H) : ∀ {v : V} {d : D}, Dv K F v d → Dp K H v d.py
  | _, _, .non => .non
  | _, _, .bl b => .bl b
  | _, _, .int i => .int i
  | _, _, .str x _ _ => by
    rw [py_str]
    exact .str x
  | _, _, .lst h t => .lst (SqL.of (s _ _ h)) (Dvs.dp s t)
  | _, _, .tup h t => .tup (SqT.of (s _ _ h)) (Dvs.dp s t)
  | _, _, .fz h => .lst (s.seq h) (fzAll _)
theorem Dvs.dp (s : Same F H) : ∀ {vs : List V} {ds : List D}, Dvs K F vs ds → DpAll K H vs (D.py.go ds)
  | _, _, .nil => .nil
  | _, _, .cons h t => .cons (Dv.dp s h) (Dvs.dp s t)
end
/-! ### equality -/
theorem arr_beq (x y : List Nat) : ((⟨x.toArray⟩ : Str) == ⟨y.toArray⟩) = (x == y) := by
  rw [Bool.eq_iff_iff]
  simp
mutual
theorem eqv_py : ∀ (d e : D), d.dep ≤ 60 → e.dep ≤ 60 → PyData.eqv d.py e.py = D.eqv d e
  | .str x, .str y, _, _ => by
    show ((⟨x.toArray⟩ : Str) == ⟨y.toArray⟩) = (x == y)
    exact arr_beq x y
  | .lst xs, .lst ys, h, h' => by
    have a : D.depL xs ≤ 60 := by have := h; simp only [D.dep] at this; omega
    have b : D.depL ys ≤ 60 := by have := h'; simp only [D.dep] at this; omega
    simp only [D.py, PyData.eqv, D.eqv]
    exact eqvL_py xs ys a b
  | .tup xs, .tup ys, h, h' => by
    have a : D.depL xs ≤ 60 := by have := h; simp only [D.dep] at this; omega
    have b : D.depL ys ≤ 60 := by have := h'; simp only [D.dep] at this; omega
    simp only [D.py, PyData.eqv, D.eqv]
    exact eqvL_py xs ys a b
  | .fz _, _, h, _ => by simp [D.dep] at h
  | .non, .fz _, _, h | .bl _, .fz _, _, h | .int _, .fz _, _, h | .str _, .fz _, _, h | .lst _, .fz _, _, h | .tup _, .fz _, _, h => by simp [D.dep] at h
  | .non, .non, _, _ | .non, .bl _, _, _ | .non, .int _, _, _ | .non, .str _, _, _ | .non, .lst _, _, _ | .non, .tup _, _, _ => by simp [D.py, PyData.eqv, D.eqv]
  | .bl _, .non, _, _ | .bl _, .bl _, _, _ | .bl _, .int _, _, _ | .bl _, .str _, _, _ | .bl _, .lst _, _, _ | .bl _, .tup _, _, _ => by simp [D.py, PyData.eqv, D.eqv]
  | .int _, .non, _, _ | .int _, .bl _, _, _ | .int _, .int _, _, _ | .int _, .str _, _, _ | .int _, .lst _, _, _ | .int _, .tup _, _, _ => by simp [D.py, PyData.eqv, D.eqv]
  | .str _, .non, _, _ | .str _, .bl _, _, _ | .str _, .int _, _, _ | .str _, .lst _, _, _ | .str _, .tup _, _, _ => by simp [D.py, PyData.eqv, D.eqv]
  | .lst _, .non, _, _ | .lst _, .bl _, _, _ | .lst _, .int _, _, _ | .lst _, .str _, _, _ | .lst _, .tup _, _, _ => by simp [D.py, PyData.eqv, D.eqv]
  | .tup _, .non, _, _ | .tup _, .bl _, _, _ | .tup _, .int _, _, _ | .tup _, .str _, _, _ | .tup _, .lst _, _, _ => by simp [D.py, PyData.eqv, D.eqv]
theorem eqvL_py : ∀ (xs ys : List D), D.depL xs ≤ 60 → D.depL ys ≤ 60 → PyData.eqvAll (D.py.go xs) (D.py.go ys) = D.eqvL xs ys
  | [], [], _, _ => by simp [D.py.go, PyData.eqvAll, D.eqvL]
  | [], _ :: _, _, _ => by simp [D.py.go, PyData.eqvAll, D.eqvL]
  | _ :: _, [], _, _ => by simp [D.py.go, PyData.eqvAll, D.eqvL]
  | x :: xs, y :: ys, h, h' => by
    have h1 : max (D.dep x) (D.depL xs) ≤ 60 := by simpa only [D.depL] using h
    have h2 : max (D.dep y) (D.depL ys) ≤ 60 := by simpa only [D.depL] using h'
    simp only [D.py.go, PyData.eqvAll, D.eqvL]
    rw [eqv_py x y (by omega) (by omega), eqvL_py xs ys (by omega) (by omega)]
end
mutual
theorem dep_py : ∀ (d : D), d.dep ≤ 60 → d.py.depth = d.dep
  | .non, _ | .bl _, _ | .int _, _ | .str _, _ => by simp [D.py, PyData.depth, D.dep]
  | .fz _, h => by simp [D.dep] at h
  | .lst xs, h => by
    simp only [D.dep] at h
    simp only [D.py, PyData.depth, D.dep]
    rw [depL_py xs (by omega)]
  | .tup xs, h => by
    simp only [D.dep] at h
    simp only [D.py, PyData.depth, D.dep]
    rw [depL_py xs (by omega)]
theorem depL_py : ∀ (xs : List D), D.depL xs ≤ 60 → PyData.depthAll (D.py.go xs) = D.depL xs
  | [], _ => by simp [D.py.go, PyData.depthAll, D.depL]
  | x :: xs, h => by
    have h1 : max (D.dep x) (D.depL xs) ≤ 60 := by simpa only [D.depL] using h
    simp only [D.py.go, PyData.depthAll, D.depL]
    rw [dep_py x (by omega), depL_py xs (by omega)]
end
theorem lay_ints : ∀ ns : List Int, PyData.canLayAll0 (ns.map PyData.int) = true
  | [] => by simp [PyData.canLayAll0]
  | n :: r => by
    have ih := lay_ints r
    simpa [PyData.canLayAll0, PyData.canLay0] using ih
mutual
theorem Dv.lay : ∀ {v : V} {d : D}, Dv K F v d → d.py.canLay0 = true
  | _, _, .non => by simp [D.py, PyData.canLay0]
  | _, _, .bl b => by simp [D.py, PyData.canLay0]
  | _, _, .int i => by simp [D.py, PyData.canLay0]
  | _, _, .str x _ h => by
    rw [py_str]
    simpa [PyData.canLay0] using h
  | _, _, .lst _ t => by
    simp only [D.py, PyData.canLay0]
    exact Dvs.lay t
  | _, _, .tup _ t => by
    simp only [D.py, PyData.canLay0]
    exact Dvs.lay t
  | _, _, .fz (ns := ns) _ => by
    simp only [D.py, PyData.canLay0]
    exact lay_ints ns
theorem Dvs.lay : ∀ {vs : List V} {ds : List D}, Dvs K F vs ds → PyData.canLayAll0 (D.py.go ds) = true
  | _, _, .nil => by simp [D.py.go, PyData.canLayAll0]
  | _, _, .cons h t => by
    simp only [D.py.go, PyData.canLayAll0, Bool.and_eq_true]
    exact ⟨h.lay, t.lay⟩
end
theorem Dv.shaped {v : V} {d : D} (h : Dv K F v d) (hd : d.dep ≤ 60) : SeqAt.shaped d.py = true := by
  unfold SeqAt.shaped
  rw [h.lay, dep_py d hd, Bool.true_and]
  exact decide_eq_true (by omega)
end
/-! ### the state -/
structure Bs where
  O : Addr → Prop
  F : Hp
  H : Hp
def NoT (o : HO) : Prop := ∀ ps, o ≠ .tbl ps
theorem not_lst {xs : List V} : NoT (.lst xs) := fun _ h => nomatch h
theorem not_tup {xs : List V} : NoT (.tup xs) := fun _ h => nomatch h
/-- no table among the data -/
def NT (F : Hp) : Prop := ∀ b o, F b = some o → NoT o
structure Ext (T : List (Addr × Str)) (B : Bs) (F H : Hp) : Prop where
  ff : Same B.F F
  sub : Same F H
  hh : ∀ b o, B.H b = some o → NoT o → ¬ B.O b → H b = some o
  nf : ∀ b o, B.H b = some o → NoT o → B.F b = none → F b = none
  ob : ∀ b, B.O b → ∃ o, H b = some o ∧ NoT o ∧ F b = none
  tb : LamX.Tabs T H
  nt : NT F
theorem NT.upd {F : Hp} (h : NT F) {p : Addr} {o : HO} (n : NoT o) : NT (upd F p o) := fun b u e => by
  by_cases hb : b = p
  · subst hb
    rw [upd_same] at e
    cases e
    exact n
  · rw [upd_ne hb] at e
    exact h b u e
def Fresh (B : Bs) (p : Addr) : Prop := ∀ o, B.H p = some o → ¬ NoT o
structure Rep (T : List (Addr × Str)) (K : PySem.W.Frag) (B : Bs) (r : En) (σ : St) (F H : Hp) : Prop where
  ext : Ext T B F H
  len : r.length = σ.length
  dat : ∀ (i : Nat) d, r[i]? = some (.dat d) → ∃ v, σ[i]? = some (some v) ∧ Dv K F v d
  own : ∀ (i : Nat) xs, r[i]? = some (.own xs) → ∃ p vs, σ[i]? = some (some (.ref p)) ∧ H p = some (.lst vs) ∧ F p = none ∧ Dvs K F vs xs ∧ (Fresh B p ∧ ¬ B.O p)
  bor : ∀ (i : Nat) xs, r[i]? = some (.bor xs) → ∃ p vs, σ[i]? = some (some (.ref p)) ∧ H p = some (.lst vs) ∧ F p = none ∧ Dvs K F vs xs ∧ B.O p
  apart : ∀ (i j : Nat) p, notOwn r[i]? = false → notOwn r[j]? = false → σ[i]? = some (some (.ref p)) → σ[j]? = some (some (.ref p)) → i = j
section
variable {T : List (Addr × Str)} {K : PySem.W.Frag} {B : Bs} {r : En} {σ : St} {F H F' H' : Hp}
theorem same_upd {H : Hp} {p : Addr} {o : HO} (h : H p = none) : Same H (upd H p o) := fun b x e => by
  rw [upd_ne (ne_of_none e h)]
  exact e
theorem same_both {p : Addr} {o : HO} (s : Same F H) : Same (upd F p o) (upd H p o) := fun b x e => by
  by_cases hb : b = p
  · subst hb
    rw [upd_same] at e ⊢
    exact e
  · rw [upd_ne hb] at e ⊢
    exact s _ _ e
theorem Ext.refl {O : Addr → Prop} (s : Same F H) (t : LamX.Tabs T H) (n : NT F) (ho : ∀ b, O b → ∃ o, H b = some o ∧ NoT o ∧ F b = none) : Ext T ⟨O, F, H⟩ F H :=
  ⟨Same.refl _, s, fun _ _ h _ _ => h, fun _ _ _ _ h => h, ho, t, n⟩
/-- a step from F, H on, in which the lists at O' may change -/
theorem Ext.comp {O' : Addr → Prop} (e : Ext T B F H) (e' : Ext T ⟨O', F, H⟩ F' H') (ho : ∀ b, O' b → B.O b ∨ Fresh B b) : Ext T B F' H' where
  ff := e.ff.trans e'.ff
  sub := e'.sub
  hh := fun b o h n no => e'.hh b o (e.hh b o h n no) n fun z => (ho b z).elim no fun q => q o h n
  nf := fun b o h n hf => by
    have f1 := e.nf b o h n hf
    by_cases hb : B.O b
    · obtain ⟨o', h1, n1, _⟩ := e.ob b hb
      exact e'.nf b o' h1 n1 f1
    · exact e'.nf b o (e.hh b o h n hb) n f1
  ob := fun b hb => by
    obtain ⟨o', h1, n1, f1⟩ := e.ob b hb
    by_cases hb' : O' b
    · exact e'.ob b hb'
    · exact ⟨o', e'.hh b o' h1 n1 hb', n1, e'.nf b o' h1 n1 f1⟩
  tb := e'.tb
  nt := e'.nt
theorem Ext.fresh (e : Ext T B F H) {p : Addr} {o : HO} (hp : H p = none) (n : NoT o) : Ext T B (upd F p o) (upd H p o) where
  ff := e.ff.trans (same_upd (e.sub.free hp))
  sub := same_both e.sub
  hh := fun b u h nu no => by
    have z := e.hh b u h nu no
    rw [upd_ne (ne_of_none z hp)]
    exact z
  nf := fun b u h nu hf => by
    have hb : b ≠ p := fun z => by
      subst z
      by_cases hO : B.O b
      · obtain ⟨o', h1, _⟩ := e.ob b hO
        rw [hp] at h1
        cases h1
      · have z := e.hh b u h nu hO
        rw [hp] at z
        cases z
    rw [upd_ne hb]
    exact e.nf b u h nu hf
  ob := fun b hb => by
    obtain ⟨o', h1, n1, f1⟩ := e.ob b hb
    have hne := ne_of_none h1 hp
    exact ⟨o', by rw [upd_ne hne]; exact h1, n1, by rw [upd_ne hne]; exact f1⟩
  tb := e.tb.ext (same_upd hp)
  nt := e.nt.upd n
/-- .. not of the data -/
theorem Ext.fresh' (e : Ext T B F H) {p : Addr} {o : HO} (hp : H p = none) : Ext T B F (upd H p o) where
  ff := e.ff
  sub := e.sub.trans (same_upd hp)
  hh := fun b u h nu no => by
    have z := e.hh b u h nu no
    rw [upd_ne (ne_of_none z hp)]
    exact z
  nf := e.nf
  ob := fun b hb => by
    obtain ⟨o', h1, n1, f1⟩ := e.ob b hb
    exact ⟨o', by rw [upd_ne (ne_of_none h1 hp)]; exact h1, n1, f1⟩
  tb := e.tb.ext (same_upd hp)
  nt := e.nt
theorem Rep.fresh (h : Rep T K B r σ F H) {p : Addr} {o : HO} (hp : H p = none) (n : NoT o) : Rep T K B r σ (upd F p o) (upd H p o) where
  ext := h.ext.fresh hp n
  len := h.len
  dat := fun i d e => by
    obtain ⟨v, h1, h2⟩ := h.dat i d e
    exact ⟨v, h1, h2.mono (same_upd (h.ext.sub.free hp))⟩
  own := fun i xs e => by
    obtain ⟨q, vs, h1, h2, h3, h4, h5⟩ := h.own i xs e
    have hne := ne_of_none h2 hp
    exact ⟨q, vs, h1, by rw [upd_ne hne]; exact h2, by rw [upd_ne hne]; exact h3, h4.mono (same_upd (h.ext.sub.free hp)), h5⟩
  bor := fun i xs e => by
    obtain ⟨q, vs, h1, h2, h3, h4, h5⟩ := h.bor i xs e
    have hne := ne_of_none h2 hp
    exact ⟨q, vs, h1, by rw [upd_ne hne]; exact h2, by rw [upd_ne hne]; exact h3, h4.mono (same_upd (h.ext.sub.free hp)), h5⟩
  apart := h.apart
theorem Rep.fresh' (h : Rep T K B r σ F H) {p : Addr} {o : HO} (hp : H p = none) : Rep T K B r σ F (upd H p o) where
  ext := h.ext.fresh' hp
  len := h.len
  dat := h.dat
  own := fun i xs e => by
    obtain ⟨q, vs, h1, h2, h3, h4, h5⟩ := h.own i xs e
    exact ⟨q, vs, h1, by rw [upd_ne (ne_of_none h2 hp)]; exact h2, h3, h4, h5⟩
  bor := fun i xs e => by
    obtain ⟨q, vs, h1, h2, h3, h4, h5⟩ := h.bor i xs e
    exact ⟨q, vs, h1, by rw [upd_ne (ne_of_none h2 hp)]; exact h2, h3, h4, h5⟩
  apart := h.apart
/-- behind a call that changes nothing -/
theorem Rep.call (h : Rep T K B r σ F H) (e : Ext T ⟨fun _ => False, F, H⟩ F' H') : Rep T K B r σ F' H' where
  ext := h.ext.comp e fun _ z => z.elim
  len := h.len
  dat := fun i d q => by
    obtain ⟨v, h1, h2⟩ := h.dat i d q
    exact ⟨v, h1, h2.mono e.ff⟩
  own := fun i xs q => by
    obtain ⟨p, vs, h1, h2, h3, h4, h5⟩ := h.own i xs q
    exact ⟨p, vs, h1, e.hh p _ h2 not_lst (fun z => z), e.nf p _ h2 not_lst h3, h4.mono e.ff, h5⟩
  bor := fun i xs q => by
    obtain ⟨p, vs, h1, h2, h3, h4, h5⟩ := h.bor i xs q
    exact ⟨p, vs, h1, e.hh p _ h2 not_lst (fun z => z), e.nf p _ h2 not_lst h3, h4.mono e.ff, h5⟩
  apart := h.apart
theorem Rep.free (h : Rep T K B r σ F H) {p : Addr} (hp : H p = none) : F p = none := h.ext.sub.free hp
end
/-! ### judgements -/
section
variable (T : List (Addr × Str)) (cv : Nat → Value)
/-- what is wanted behind a run -/
def Po {α β : Type} (Rel : Hp → β → α → Prop) (K : PySem.W.Frag) (B : Bs) (σ : St) (F : Hp) (E : XK) (Q : β → Hp → Prop) : R α → Prop
  | .ok a r => ∀ F' H' v, Same F F' → Rep T K B r σ F' H' → Rel F' v a → Q v H'
  | .exc c r => ∀ F' H', Same F F' → Rep T K B r σ F' H' → E (cv c) none H'
  | .bad => False
abbrev PoE (K : PySem.W.Frag) := Po T cv (Dv K) K
abbrev PoA (K : PySem.W.Frag) := Po T cv (Dvs K) K
abbrev PoT (K : PySem.W.Frag) := Po T cv (fun _ (b b' : Bool) => b = b') K
def DE (X : Cx) (E : XK) (e : Expr) (f : M D) : Prop := ∃ t, PE X e t ∧ ∀ B r σ F H Q, Rep T X.K B r σ F H → PoE T cv X.K B σ F E Q (f r) → t σ H Q
def DT (X : Cx) (E : XK) (e : Expr) (f : M Bool) : Prop := ∃ t, PT X e t ∧ ∀ B r σ F H Q, Rep T X.K B r σ F H → PoT T cv X.K B σ F E Q (f r) → t σ H Q
def DW (X : Cx) (E : XK) (e : Expr) (f : M Bool) : Prop := ∃ t, PW X e t ∧ ∀ B r σ F H Q, Rep T X.K B r σ F H → PoT T cv X.K B σ F E Q (f r) → t σ H Q
def DA (X : Cx) (E : XK) (es : List Expr) (f : M (List D)) : Prop := ∃ t, PA X es t ∧ ∀ B r σ F H Q, Rep T X.K B r σ F H → PoA T cv X.K B σ F E Q (f r) → t σ H Q
end
section
variable {T : List (Addr × Str)} {cv : Nat → Value} {K : PySem.W.Frag} {B : Bs} {r : En} {σ : St} {F F1 H : Hp} {E : XK}
theorem Po.from {α β : Type} {Rel : Hp → β → α → Prop} {Q : β → Hp → Prop} {x : R α} (s : Same F F1) (h : Po T cv Rel K B σ F E Q x) : Po T cv Rel K B σ F1 E Q x := by
  cases x with
  | ok a r => exact fun F' H' v s' => h F' H' v (s.trans s')
  | exc c r => exact fun F' H' s' => h F' H' (s.trans s')
  | bad => exact h
theorem Po.bind {α β γ δ : Type} {RA : Hp → β → α → Prop} {RC : Hp → δ → γ → Prop} {Q1 : β → Hp → Prop} {Q : δ → Hp → Prop} {x : R α} {f : α → En → R γ}
    (h : Po T cv RC K B σ F E Q (x.andThen f))
    (k : ∀ a r F1 H1 v, x = .ok a r → Same F F1 → Rep T K B r σ F1 H1 → RA F1 v a → Po T cv RC K B σ F1 E Q (f a r) → Q1 v H1) : Po T cv RA K B σ F E Q1 x := by
  cases x with
  | ok a r => exact fun F' H' v s rep rel => k a r F' H' v rfl s rep rel (Po.from s h)
  | exc c r => exact h
  | bad => exact h
theorem Po.lift {α β : Type} {Rel : Hp → β → α → Prop} {Q : β → Hp → Prop} {o : Option α} (h : Po T cv Rel K B σ F E Q (R.lift o r)) : ∃ a, o = some a ∧ ∀ F' H' v, Same F F' → Rep T K B r σ F' H' → Rel F' v a → Q v H' := by
  cases o with
  | none => exact h.elim
  | some a => exact ⟨a, rfl, h⟩
end
section
variable {T : List (Addr × Str)} {cv : Nat → Value} {X : Cx} {E : XK} {e a b c : Expr} {es : List Expr} {pos : Pos} {fa fb fc : M D} {fs : M (List D)}
/-! ### names, constants -/
theorem de_v (i : Nat) {x : Str} (hN : X.N[i]? = some x := by rfl) (hv : Vis X.env.scope x := by first | exact Or.inl rfl | exact Or.inr (Or.inl rfl) | exact Or.inr (Or.inr rfl)) (hd : (x == ("__debug__" : Str)) = false := by decide)
    (hcd : (x == ("__classdict__" : Str)) = false := by decide) : DE T cv X E (.Name x pos) (eV i) := by
  refine ⟨_, pe_var hN hv hd hcd, fun B r σ F H Q rep h => ?_⟩
  unfold eV at h
  split at h
  · rename_i d hd
    obtain ⟨v, h1, h2⟩ := rep.dat i d hd
    exact ⟨v, h1, h F H v (Same.refl _) rep h2⟩
  · exact h.elim
theorem de_int {i : Int} {j : Nat} : DE T cv X E (.Constant (.int i) j pos) (eC (.int i)) := ⟨_, pe_int, fun B r σ F H Q rep h => h F H _ (Same.refl _) rep (.int i)⟩
theorem de_bl {b : Bool} {j : Nat} : DE T cv X E (.Constant (.bool b) j pos) (eC (.bl b)) := ⟨_, pe_bl, fun B r σ F H Q rep h => h F H _ (Same.refl _) rep (.bl b)⟩
theorem de_non {j : Nat} : DE T cv X E (.Constant .none j pos) (eC .non) := ⟨_, pe_non, fun B r σ F H Q rep h => h F H _ (Same.refl _) rep .non⟩
/-- a written text -/
structure Tx (x : Str) (s : List Nat) : Prop where
  eq : x.cps.toList = s
  sz : x.cps.size ≤ lim
  ok : PyData.strOk x = true
theorem Tx.dv {K : PySem.W.Frag} {F : Hp} {x : Str} {s : List Nat} (h : Tx x s) : Dv K F (.str x) (.str s) := by
  rw [← h.eq]
  exact .str x h.sz h.ok
theorem de_str {x : Str} {s : List Nat} {j : Nat} (h : Tx x s) : DE T cv X E (.Constant (.str x) j pos) (eC (.str s)) := ⟨_, pe_str, fun B r σ F H Q rep q => q F H _ (Same.refl _) rep h.dv⟩
/-! ### operators -/
/-- a rule by values serves a function of data -/
def Op2 (T : List (Addr × Str)) (K : PySem.W.Frag) (rr : R2) (f : D → D → Option D) : Prop :=
  ∀ B r σ F H x y d e z (Q : VK), Rep T K B r σ F H → Dv K F x d → Dv K F y e → f d e = some z → (∀ F' H' v, Same F F' → Rep T K B r σ F' H' → Dv K F' v z → Q v H') → rr x y H Q
def Op1 (T : List (Addr × Str)) (K : PySem.W.Frag) (rr : V → Hp → VK → Prop) (f : D → Option D) : Prop :=
  ∀ B r σ F H x d z (Q : VK), Rep T K B r σ F H → Dv K F x d → f d = some z → (∀ F' H' v, Same F F' → Rep T K B r σ F' H' → Dv K F' v z → Q v H') → rr x H Q
def OpN (T : List (Addr × Str)) (K : PySem.W.Frag) (rr : List V → Hp → VK → Prop) (f : List D → Option D) : Prop :=
  ∀ B r σ F H xs ds z (Q : VK), Rep T K B r σ F H → Dvs K F xs ds → f ds = some z → (∀ F' H' v, Same F F' → Rep T K B r σ F' H' → Dv K F' v z → Q v H') → rr xs H Q
theorem tOp_ok {rr : R2} {f : D → D → Option D} {ta tb : TE} (o : Op2 T X.K rr f) (ha : ∀ B r σ F H Q, Rep T X.K B r σ F H → PoE T cv X.K B σ F E Q (fa r) → ta σ H Q) (hb : ∀ B r σ F H Q, Rep T X.K B r σ F H → PoE T cv X.K B σ F E Q (fb r) → tb σ H Q) :
    ∀ B r σ F H Q, Rep T X.K B r σ F H → PoE T cv X.K B σ F E Q (e2 f fa fb r) → tOp rr ta tb σ H Q := fun B r σ F H Q rep h => by
  refine ha B r σ F H _ rep (Po.bind h fun d r1 F1 H1 x _ s1 rep1 dx h1 => ?_)
  refine hb B r1 σ F1 H1 _ rep1 (Po.bind h1 fun e r2 F2 H2 y _ s2 rep2 dy h2 => ?_)
  obtain ⟨z, ez, q⟩ := h2.lift
  exact o B r2 σ F2 H2 x y d e z Q rep2 (dx.mono s2) dy ez q
theorem de_bin {op : Operator} {rr : R2} {f : D → D → Option D} (ho : OpR X (binaryOp op) rr) (o : Op2 T X.K rr f) (ha : DE T cv X E a fa) (hb : DE T cv X E b fb) : DE T cv X E (.BinOp a op b pos) (e2 f fa fb) := by
  obtain ⟨ta, pa, qa⟩ := ha
  obtain ⟨tb, pb, qb⟩ := hb
  exact ⟨_, pe_op ho pa pb, tOp_ok o qa qb⟩
theorem de_cmp {op : CmpOp} {rr : R2} {f : D → D → Option D} (ho : OpR X (compareOp op) rr) (o : Op2 T X.K rr f) (hm : behindInMarks op b = false) (ha : DE T cv X E a fa) (hb : DE T cv X E b fb) : DE T cv X E (.Compare a [op] [b] pos) (e2 f fa fb) := by
  obtain ⟨ta, pa, qa⟩ := ha
  obtain ⟨tb, pb, qb⟩ := hb
  exact ⟨_, pe_cmpR ho pa pb hm, tOp_ok o qa qb⟩
theorem de_un {op : UnaryOp} {rr : V → Hp → VK → Prop} {f : D → Option D} (ho : UnR X (unaryOp op) rr) (o : Op1 T X.K rr f) (ha : DE T cv X E a fa) : DE T cv X E (.UnaryOp op a pos) (e1 f fa) := by
  obtain ⟨ta, pa, qa⟩ := ha
  refine ⟨_, pe_un ho pa, fun B r σ F H Q rep h => ?_⟩
  refine qa B r σ F H _ rep (Po.bind h fun d r1 F1 H1 x _ s1 rep1 dx h1 => ?_)
  obtain ⟨z, ez, q⟩ := h1.lift
  exact o B r1 σ F1 H1 x d z Q rep1 dx ez q
theorem de_ix (ha : DE T cv X E a fa) (hb : DE T cv X E b fb) {rr : R2} {f : D → D → Option D} (hr : IxR X rr) (o : Op2 T X.K rr f) (hs : PlainIx b) : DE T cv X E (.Subscript a b pos) (e2 f fa fb) := by
  obtain ⟨ta, pa, qa⟩ := ha
  obtain ⟨tb, pb, qb⟩ := hb
  exact ⟨_, pe_ix hr pa pb hs, tOp_ok o qa qb⟩
/-- a op b op' c -/
theorem tCh_ok {rr rr' : R2} {f g : D → D → Option D} {ta tb tc : TE} (o : Op2 T X.K rr f) (o' : Op2 T X.K rr' g) (qa : ∀ B r σ F H Q, Rep T X.K B r σ F H → PoE T cv X.K B σ F E Q (fa r) → ta σ H Q) (qb : ∀ B r σ F H Q, Rep T X.K B r σ F H → PoE T cv X.K B σ F E Q (fb r) → tb σ H Q)
    (qc : ∀ B r σ F H Q, Rep T X.K B r σ F H → PoE T cv X.K B σ F E Q (fc r) → tc σ H Q) : ∀ B r σ F H Q, Rep T X.K B r σ F H → PoE T cv X.K B σ F E Q (eCh f g fa fb fc r) → tChain rr rr' ta tb tc σ H Q := fun B r σ F H Q rep h => by
  refine qa B r σ F H _ rep (Po.bind h fun d r1 F1 H1 x _ s1 rep1 dx h1 => ?_)
  refine qb B r1 σ F1 H1 _ rep1 (Po.bind h1 fun e r2 F2 H2 y _ s2 rep2 dy h2 => ?_)
  cases ez : f d e with
  | none =>
    rw [ez] at h2
    exact h2.elim
  | some z =>
    rw [ez] at h2
    refine o B r2 σ F2 H2 x y d e z _ rep2 (dx.mono s2) dy ez fun F3 H3 v s3 rep3 dv => ?_
    cases z with
    | bl k =>
      cases dv
      cases k with
      | true =>
        refine ⟨true, rfl, iteT ?_⟩
        refine qc B r2 σ F3 H3 _ rep3 (Po.bind (Po.from s3 h2) fun w r4 F4 H4 u _ s4 rep4 dw h4 => ?_)
        obtain ⟨z, ez, q⟩ := h4.lift
        exact o' B r4 σ F4 H4 y u e w z Q rep4 ((dy.mono s3).mono s4) dw ez q
      | false => exact ⟨false, rfl, iteF (h2 F3 H3 _ s3 rep3 (.bl false))⟩
    | _ => exact h2.elim
/-! ### arguments, displays, calls -/
theorem da_nil : DA T cv X E [] aN := ⟨_, pa_nil, fun B r σ F H Q rep h => h F H _ (Same.refl _) rep .nil⟩
theorem da_cons (ha : DE T cv X E e fa) (hr : DA T cv X E es fs) (hs : starEach (e :: es) X.env = (false, eval e X.env) :: starEach es X.env := by rfl) : DA T cv X E (e :: es) (aC fa fs) := by
  obtain ⟨ta, pa, qa⟩ := ha
  obtain ⟨tr, pr, qr⟩ := hr
  refine ⟨_, pa_cons pa pr hs, fun B r σ F H Q rep h => ?_⟩
  refine qa B r σ F H _ rep (Po.bind h fun d r1 F1 H1 x _ s1 rep1 dx h1 => ?_)
  refine qr B r1 σ F1 H1 _ rep1 (Po.bind h1 fun ds r2 F2 H2 xs _ s2 rep2 dxs h2 => ?_)
  exact h2 F2 H2 _ (Same.refl _) rep2 (.cons (dx.mono s2) dxs)
theorem de_tup {k : Nat} (h : DA T cv X E es fs) (hl : ∀ r ds r', fs r = .ok ds r' → ds.length ≤ lim) : DE T cv X E (.Tuple es k pos) (eTup fs) := by
  obtain ⟨t, p, q⟩ := h
  refine ⟨_, pe_tup p, fun B r σ F H Q rep h => ?_⟩
  refine q B r σ F H _ rep (Po.bind h fun ds r1 F1 H1 xs er s1 rep1 dxs h1 => ?_)
  have z := hl r ds r1 er
  refine ⟨by rw [dxs.len]; exact Nat.le_trans z (by decide), fun p hp => ?_⟩
  exact h1 _ _ _ (same_upd (rep1.free hp)) (rep1.fresh hp not_tup) (.tup upd_same (dxs.mono (same_upd (rep1.free hp))))
theorem de_lst (h : DA T cv X E es fs) (hl : ∀ r ds r', fs r = .ok ds r' → ds.length ≤ lim) : DE T cv X E (.List es pos) (eLst fs) := by
  obtain ⟨t, p, q⟩ := h
  refine ⟨_, pe_lst p, fun B r σ F H Q rep h => ?_⟩
  refine q B r σ F H _ rep (Po.bind h fun ds r1 F1 H1 xs er s1 rep1 dxs h1 => ?_)
  have z := hl r ds r1 er
  refine ⟨by rw [dxs.len]; exact Nat.le_trans z (by decide), fun p hp => ?_⟩
  exact h1 _ _ _ (same_upd (rep1.free hp)) (rep1.fresh hp not_lst) (.lst upd_same (dxs.mono (same_upd (rep1.free hp))))
/-- lengths of written lists -/
def Ln (fs : M (List D)) (n : Nat) : Prop := ∀ r ds r', fs r = .ok ds r' → ds.length = n
theorem ln_nil : Ln aN 0 := fun r ds r' h => by
  cases h
  rfl
theorem ln_cons {n : Nat} (h : Ln fs n) : Ln (aC fa fs) (n + 1) := fun r ds r' e => by
  unfold aC at e
  cases h1 : fa r with
  | ok d r1 =>
    rw [h1] at e
    have e : (fs r1).andThen (fun xs r2 => R.ok (d :: xs) r2) = .ok ds r' := e
    cases h2 : fs r1 with
    | ok xs r2 =>
      rw [h2] at e
      have e : R.ok (d :: xs) r2 = .ok ds r' := e
      injection e with e1 e2
      rw [← e1, List.length_cons, h r1 xs r2 h2]
    | exc c r2 =>
      rw [h2] at e
      cases e
    | bad =>
      rw [h2] at e
      cases e
  | exc c r1 =>
    rw [h1] at e
    cases e
  | bad =>
    rw [h1] at e
    cases e
theorem Ln.le {n : Nat} (h : Ln fs n) (hn : n ≤ 100000 := by decide) : ∀ r ds r', fs r = .ok ds r' → ds.length ≤ lim := fun r ds r' e => by
  rw [h r ds r' e]
  exact hn
theorem de_callB {x : Str} {id : String} {p : Pos} {rr : List V → Hp → VK → Prop} {f : List D → Option D} (hc : CallR X (.builtin id) rr) (o : OpN T X.K rr f) (hg : Gl X x) (hm : X.mg x = none) (hv : bootBuiltins x = some (.builtin id)) (ha : DA T cv X E (e :: es) fs) (hn : x ≠ "__name__" := by decide) (hdb : (x == ("__debug__" : Str)) = false := by decide)
    (he : starEach (e :: es) X.env = (false, eval e X.env) :: starEach es X.env := by rfl) (hpl : (backTo pos (starEach es X.env)).any (·.1) = false := by rfl) : DE T cv X E (.Call (.Name x p) (e :: es) [] pos) (eB f fs) := by
  obtain ⟨t, pp, q⟩ := ha
  refine ⟨_, pe_callB hc hg hm hv pp hn hdb he hpl, fun B r σ F H Q rep h => ?_⟩
  refine q B r σ F H _ rep (Po.bind h fun ds r1 F1 H1 xs er s1 rep1 dxs h1 => ?_)
  obtain ⟨z, ez, q⟩ := h1.lift
  exact o B r1 σ F1 H1 xs ds z Q rep1 dxs ez q
theorem de_callTy {x : Str} {id : String} {p : Pos} {rr : List V → Hp → VK → Prop} {f : List D → Option D} (hc : CallR X (.type id) rr) (o : OpN T X.K rr f) (hg : Gl X x) (hm : X.mg x = none) (hv : bootBuiltins x = some (.type id)) (ha : DA T cv X E (e :: es) fs) (hn : x ≠ "__name__" := by decide) (hdb : (x == ("__debug__" : Str)) = false := by decide)
    (he : starEach (e :: es) X.env = (false, eval e X.env) :: starEach es X.env := by rfl) (hpl : (backTo pos (starEach es X.env)).any (·.1) = false := by rfl) : DE T cv X E (.Call (.Name x p) (e :: es) [] pos) (eB f fs) := by
  obtain ⟨t, pp, q⟩ := ha
  refine ⟨_, pe_callTy hc hg hm hv pp hn hdb he hpl, fun B r σ F H Q rep h => ?_⟩
  refine q B r σ F H _ rep (Po.bind h fun ds r1 F1 H1 xs er s1 rep1 dxs h1 => ?_)
  obtain ⟨z, ez, q⟩ := h1.lift
  exact o B r1 σ F1 H1 xs ds z Q rep1 dxs ez q
/-! ### tests -/
theorem dt_v (ha : DE T cv X E a fa) (he : ∀ whole, isTrue a X.env whole = (do let v ← whole; standAt a.pos; holding [v] (truthy v)) := by intro _; rfl) : DT T cv X E a (tV fa) := by
  obtain ⟨ta, pa, qa⟩ := ha
  refine ⟨_, pt_val pa he, fun B r σ F H Q rep h => ?_⟩
  refine qa B r σ F H _ rep (Po.bind h fun d r1 F1 H1 x _ s1 rep1 dx h1 => ?_)
  cases d with
  | bl k =>
    cases dx
    exact ⟨k, rfl, h1 F1 H1 k (Same.refl _) rep1 rfl⟩
  | _ => exact h1.elim
theorem dt_cmp {op : CmpOp} {rr : R2} {f : D → D → Option D} (ho : OpR X (compareOp op) rr) (o : Op2 T X.K rr f) (hm : behindInMarks op b = false) (ha : DE T cv X E a fa) (hb : DE T cv X E b fb) : DT T cv X E (.Compare a [op] [b] pos) (tV (e2 f fa fb)) := by
  obtain ⟨ta, pa, qa⟩ := ha
  obtain ⟨tb, pb, qb⟩ := hb
  refine ⟨_, pt_cmpR ho pa pb hm, fun B r σ F H Q rep h => ?_⟩
  refine tOp_ok o qa qb B r σ F H _ rep (Po.bind h fun d r1 F1 H1 x _ s1 rep1 dx h1 => ?_)
  cases d with
  | bl k =>
    cases dx
    exact ⟨k, rfl, h1 F1 H1 k (Same.refl _) rep1 rfl⟩
  | _ => exact h1.elim
theorem dt_chain {op op' : CmpOp} {rr rr' : R2} {f g : D → D → Option D} (ho : OpR X (compareOp op) rr) (ho' : OpR X (compareOp op') rr') (o : Op2 T X.K rr f) (o' : Op2 T X.K rr' g) (ha : DE T cv X E a fa) (hb : DE T cv X E b fb) (hc : DE T cv X E c fc)
    (hm : lastMarks [op, op'] [b, c] = false := by with_unfolding_all rfl) : DT T cv X E (.Compare a [op, op'] [b, c] pos) (tV (eCh f g fa fb fc)) := by
  obtain ⟨ta, pa, qa⟩ := ha
  obtain ⟨tb, pb, qb⟩ := hb
  obtain ⟨tc, pc, qc⟩ := hc
  refine ⟨_, pt_chain ho ho' pa pb pc hm, fun B r σ F H Q rep h => ?_⟩
  refine tCh_ok o o' qa qb qc B r σ F H _ rep (Po.bind h fun d r1 F1 H1 x _ s1 rep1 dx h1 => ?_)
  cases d with
  | bl k =>
    cases dx
    exact ⟨k, rfl, h1 F1 H1 k (Same.refl _) rep1 rfl⟩
  | _ => exact h1.elim
theorem DW.t {f : M Bool} (h : DW T cv X E a f) : DT T cv X E a f := by
  obtain ⟨t, p, q⟩ := h
  exact ⟨t, p.pt, q⟩
variable {tA tBb : M Bool} {rest : List Expr}
theorem dw_and1 (ha : DT T cv X E a tA) : DW T cv X E (.BoolOp .And [a] pos) tA := by
  obtain ⟨t, p, q⟩ := ha
  exact ⟨t, pw_and1 p, q⟩
theorem dw_or1 (ha : DT T cv X E a tA) : DW T cv X E (.BoolOp .Or [a] pos) tA := by
  obtain ⟨t, p, q⟩ := ha
  exact ⟨t, pw_or1 p, q⟩
theorem dw_and (ha : DT T cv X E a tA) (hb : DW T cv X E (.BoolOp .And (b :: rest) pos) tBb) : DW T cv X E (.BoolOp .And (a :: b :: rest) pos) (tAn tA tBb) := by
  obtain ⟨t, p, q⟩ := ha
  obtain ⟨t', p', q'⟩ := hb
  refine ⟨_, pw_and p p', fun B r σ F H Q rep h => ?_⟩
  refine q B r σ F H _ rep (Po.bind h fun k r1 F1 H1 x _ s1 rep1 dx h1 => ?_)
  subst dx
  cases x with
  | true => exact iteT (q' B r1 σ F1 H1 Q rep1 h1)
  | false => exact iteF (h1 F1 H1 _ (Same.refl _) rep1 rfl)
theorem dw_or (ha : DT T cv X E a tA) (hb : DW T cv X E (.BoolOp .Or (b :: rest) pos) tBb) : DW T cv X E (.BoolOp .Or (a :: b :: rest) pos) (tOr tA tBb) := by
  obtain ⟨t, p, q⟩ := ha
  obtain ⟨t', p', q'⟩ := hb
  refine ⟨_, pw_or p p', fun B r σ F H Q rep h => ?_⟩
  refine q B r σ F H _ rep (Po.bind h fun k r1 F1 H1 x _ s1 rep1 dx h1 => ?_)
  subst dx
  cases x with
  | true => exact iteT (h1 F1 H1 _ (Same.refl _) rep1 rfl)
  | false => exact iteF (q' B r1 σ F1 H1 Q rep1 h1)
theorem dt_not (ha : DT T cv X E a tA) : DT T cv X E (.UnaryOp .Not a pos) (tNo tA) := by
  obtain ⟨t, p, q⟩ := ha
  refine ⟨_, pt_not p, fun B r σ F H Q rep h => ?_⟩
  refine q B r σ F H _ rep (Po.bind h fun k r1 F1 H1 x _ s1 rep1 dx h1 => ?_)
  subst dx
  exact h1 F1 H1 _ (Same.refl _) rep1 rfl
theorem de_one {op : BoolOp} (h : DE T cv X E a fa) : DE T cv X E (.BoolOp op [a] pos) fa := by
  obtain ⟨t, p, q⟩ := h
  exact ⟨t, pe_one p, q⟩
theorem de_and (ha : DE T cv X E a fa) (hb : DE T cv X E (.BoolOp .And (b :: rest) pos) fb) : DE T cv X E (.BoolOp .And (a :: b :: rest) pos) (eAn fa fb) := by
  obtain ⟨t, p, q⟩ := ha
  obtain ⟨t', p', q'⟩ := hb
  refine ⟨_, pe_and p p', fun B r σ F H Q rep h => ?_⟩
  refine q B r σ F H _ rep (Po.bind h fun d r1 F1 H1 x _ s1 rep1 dx h1 => ?_)
  cases d with
  | bl k =>
    cases dx
    cases k with
    | true => exact ⟨true, rfl, iteT (q' B r1 σ F1 H1 Q rep1 h1)⟩
    | false => exact ⟨false, rfl, iteF (h1 F1 H1 _ (Same.refl _) rep1 (.bl false))⟩
  | _ => exact h1.elim
theorem de_ifE (hc : DT T cv X E c tA) (ha : DE T cv X E a fa) (hb : DE T cv X E b fb) : DE T cv X E (.IfExp c a b pos) (eIf tA fa fb) := by
  obtain ⟨tc, pc, qc⟩ := hc
  obtain ⟨t, p, q⟩ := ha
  obtain ⟨t', p', q'⟩ := hb
  refine ⟨_, pe_ifExp pc p p', fun B r σ F H Q rep h => ?_⟩
  refine qc B r σ F H _ rep (Po.bind h fun k r1 F1 H1 x _ s1 rep1 dx h1 => ?_)
  subst dx
  cases x with
  | true => exact iteT (q B r1 σ F1 H1 Q rep1 h1)
  | false => exact iteF (q' B r1 σ F1 H1 Q rep1 h1)
end
end FB
/-! Calls, targets, statements, loops. -/
namespace FB
open PySem PySem.Spec L2
/-! ### what a def promises -/
section
variable (T : List (Addr × Str)) (cv : Nat → Value) (K : PySem.W.Frag)
def PoD (F H : Hp) (Q : VK) (E : XK) : Ro → Prop
  | .ok d => ∀ F' H' v, Ext T ⟨fun _ => False, F, H⟩ F' H' → Dv K F' v d → Q v H'
  | .exc c => ∀ F' H', Ext T ⟨fun _ => False, F, H⟩ F' H' → E (cv c) none H'
  | .bad => False
def spD (n : Nat) (f : List D → Ro) : Sp := fun vs H Q E => ∃ F ds, vs.length = n ∧ Same F H ∧ (LamX.Tabs T H ∧ NT F) ∧ Dvs K F vs ds ∧ PoD T cv K F H Q E (f ds)
def PoO (p : Addr) (F H : Hp) (Q : VK) (E : XK) : Rw → Prop
  | .ok d ys => ∀ F' H' v us, Ext T ⟨fun b => b = p, F, H⟩ F' H' → H' p = some (.lst us) → Dvs K F' us ys → Dv K F' v d → Q v H'
  | .exc c ys => ∀ F' H' us, Ext T ⟨fun b => b = p, F, H⟩ F' H' → H' p = some (.lst us) → Dvs K F' us ys → E (cv c) none H'
  | .bad => False
def spO (n : Nat) (f : List D → List D → Rw) : Sp := fun vs H Q E => ∃ F p us xs ws ds, vs = .ref p :: ws ∧ vs.length = n ∧ Same F H ∧ (LamX.Tabs T H ∧ NT F) ∧ H p = some (.lst us) ∧ F p = none ∧ Dvs K F us xs ∧ Dvs K F ws ds ∧ PoO T cv K p F H Q E (f xs ds)
end
/-- a def of the module by its name -/
def Has (P : Program) (w : World) (K : PySem.W.Frag) (mg : Str → Option Value) (base : Heap) (T : List (Addr × Str)) (cv : Nat → Value) (k : Nat) (x : Str) (n : Nat) (f : List D → Ro) : Prop :=
  ∃ (a : Addr) (fd : FuncData) (ps : List Str), mg x = some (.ref a) ∧ PySem.W.keepIn K (.ref a) = true ∧ Binds K fd ps [] ∧ FnOk P w K mg base (L2N.CX P w) k a fd ps (spD T cv K n f)
def HasO (P : Program) (w : World) (K : PySem.W.Frag) (mg : Str → Option Value) (base : Heap) (T : List (Addr × Str)) (cv : Nat → Value) (k : Nat) (x : Str) (n : Nat) (f : List D → List D → Rw) : Prop :=
  ∃ (a : Addr) (fd : FuncData) (ps : List Str), mg x = some (.ref a) ∧ PySem.W.keepIn K (.ref a) = true ∧ Binds K fd ps [] ∧ FnOk P w K mg base (L2N.CX P w) k a fd ps (spO T cv K n f)
abbrev Tk (X : Cx) (E : XK) : Prop := L2N.Takes X (fun c d _ H => E c d H)
theorem tk0 {X : Cx} : Tk X E0 := fun _ _ x => by
  obtain ⟨_, _, _, _, _, _, _, _, _, _, _, _, _, _, _, _, z⟩ := x
  exact z.elim
section
variable {T : List (Addr × Str)} {cv : Nat → Value} {K : PySem.W.Frag} {B : Bs} {r : En} {σ : St} {F F1 H H1 F' H' : Hp} {E : XK}
theorem Rep.set_dat (h : Rep T K B r σ F H) (i : Nat) {v : V} {d : D} (hd : Dv K F v d) : Rep T K B (r.set i (.dat d)) (σ.set i (some v)) F H := by
  have key : ∀ (j : Nat) (s : Sl), (∀ d', s ≠ .dat d') → (r.set i (.dat d))[j]? = some s → j ≠ i ∧ r[j]? = some s := fun j s ns e => by
    by_cases hj : j = i
    · subst hj
      by_cases hl : j < r.length
      · rw [List.getElem?_set_self hl] at e
        exact absurd (Option.some.inj e).symm (ns d)
      · rw [List.getElem?_eq_none (by simpa using hl)] at e
        cases e
    · rw [List.getElem?_set_ne (Ne.symm hj)] at e
      exact ⟨hj, e⟩
  have no : ∀ j : Nat, notOwn (r.set i (.dat d))[j]? = false → j ≠ i ∧ notOwn r[j]? = false := fun j e => by
    by_cases hj : j = i
    · subst hj
      by_cases hl : j < r.length
      · rw [List.getElem?_set_self hl] at e
        cases e
      · rw [List.getElem?_eq_none (by simpa using hl)] at e
        cases e
    · rw [List.getElem?_set_ne (Ne.symm hj)] at e
      exact ⟨hj, e⟩
  refine ⟨h.ext, by rw [List.length_set, List.length_set, h.len], fun j d' e => ?_, fun j xs e => ?_, fun j xs e => ?_, fun j k p e1 e2 e3 e4 => ?_⟩
  · by_cases hj : j = i
    · subst hj
      have hl : j < r.length := by
        by_cases hl : j < r.length
        · exact hl
        · rw [List.getElem?_eq_none (by simpa using hl)] at e
          cases e
      rw [List.getElem?_set_self hl] at e
      have e' := Sl.dat.inj (Option.some.inj e)
      subst e'
      exact ⟨v, List.getElem?_set_self (by rw [← h.len]; exact hl), hd⟩
    · rw [List.getElem?_set_ne (Ne.symm hj)] at e
      obtain ⟨u, h1, h2⟩ := h.dat j d' e
      exact ⟨u, by rw [List.getElem?_set_ne (Ne.symm hj)]; exact h1, h2⟩
  · obtain ⟨hj, e'⟩ := key j (.own xs) (fun _ z => nomatch z) e
    obtain ⟨p, vs, h1, h2⟩ := h.own j xs e'
    exact ⟨p, vs, by rw [List.getElem?_set_ne (Ne.symm hj)]; exact h1, h2⟩
  · obtain ⟨hj, e'⟩ := key j (.bor xs) (fun _ z => nomatch z) e
    obtain ⟨p, vs, h1, h2⟩ := h.bor j xs e'
    exact ⟨p, vs, by rw [List.getElem?_set_ne (Ne.symm hj)]; exact h1, h2⟩
  · obtain ⟨hj, f1⟩ := no j e1
    obtain ⟨hk, f2⟩ := no k e2
    rw [List.getElem?_set_ne (Ne.symm hj)] at e3
    rw [List.getElem?_set_ne (Ne.symm hk)] at e4
    exact h.apart j k p f1 f2 e3 e4
/-- the list at slot i has changed, or has been changed by a callee -/
theorem Rep.turn {i : Nat} {p : Addr} {s s' : Sl} {us : List V} {xs ys : List D} (h : Rep T K B r σ F H) (hi : r[i]? = some s) (hs : (s = .own xs ∧ s' = .own ys) ∨ (s = .bor xs ∧ s' = .bor ys)) (hp : σ[i]? = some (some (.ref p)))
    (e : Ext T ⟨fun b => b = p, F, H⟩ F' H') (hu : H' p = some (.lst us)) (hy : Dvs K F' us ys) : Rep T K B (r.set i s') σ F' H' := by
  have hil : i < r.length := (List.getElem?_eq_some_iff.mp hi).1
  have isO : notOwn r[i]? = false := by
    rw [hi]
    rcases hs with ⟨rfl, _⟩ | ⟨rfl, _⟩ <;> rfl
  have hpf : F' p = none := by
    obtain ⟨_, _, _, z⟩ := e.ob p rfl
    exact z
  have hBp : B.O p ∨ Fresh B p := by
    rcases hs with ⟨rfl, _⟩ | ⟨rfl, _⟩
    · obtain ⟨q, vs, h1, _, _, _, h5⟩ := h.own i xs hi
      rw [hp] at h1
      cases h1
      exact .inr h5.1
    · obtain ⟨q, vs, h1, _, _, _, h5⟩ := h.bor i xs hi
      rw [hp] at h1
      cases h1
      exact .inl h5
  have no : ∀ j : Nat, notOwn (r.set i s')[j]? = false → notOwn r[j]? = false := fun j q => by
    by_cases hj : j = i
    · rw [hj]
      exact isO
    · rwa [List.getElem?_set_ne (Ne.symm hj)] at q
  have other : ∀ (j : Nat) (q : Addr) (vs : List V), j ≠ i → notOwn r[j]? = false → σ[j]? = some (some (.ref q)) → H q = some (.lst vs) → F q = none → H' q = some (.lst vs) ∧ F' q = none := fun j q vs hj n1 hq h2 h3 => by
    have hne : ¬ q = p := fun z => hj (h.apart j i p n1 isO (by rw [← z]; exact hq) hp)
    exact ⟨e.hh q _ h2 not_lst hne, e.nf q _ h2 not_lst h3⟩
  refine ⟨h.ext.comp e fun b hb => by rw [hb]; exact hBp, by rw [List.length_set, h.len], fun j d q => ?_, fun j zs q => ?_, fun j zs q => ?_, fun j k b e1 e2 => h.apart j k b (no j e1) (no k e2)⟩
  · by_cases hj : j = i
    · rw [hj, List.getElem?_set_self hil] at q
      rcases hs with ⟨_, rfl⟩ | ⟨_, rfl⟩ <;> cases q
    · rw [List.getElem?_set_ne (Ne.symm hj)] at q
      obtain ⟨v, h1, h2⟩ := h.dat j d q
      exact ⟨v, h1, h2.mono e.ff⟩
  · by_cases hj : j = i
    · rw [hj, List.getElem?_set_self hil] at q
      rcases hs with ⟨rfl, rfl⟩ | ⟨_, rfl⟩
      · have e' := Sl.own.inj (Option.some.inj q)
        rw [← e', hj]
        obtain ⟨p', vs, h1, _, _, _, h5⟩ := h.own i xs hi
        rw [hp] at h1
        cases h1
        exact ⟨p, us, hp, hu, hpf, hy, h5⟩
      · cases q
    · rw [List.getElem?_set_ne (Ne.symm hj)] at q
      obtain ⟨p', vs, h1, h2, h3, h4, h5⟩ := h.own j zs q
      obtain ⟨g1, g2⟩ := other j p' vs hj (by rw [q]; rfl) h1 h2 h3
      exact ⟨p', vs, h1, g1, g2, h4.mono e.ff, h5⟩
  · by_cases hj : j = i
    · rw [hj, List.getElem?_set_self hil] at q
      rcases hs with ⟨_, rfl⟩ | ⟨rfl, rfl⟩
      · cases q
      · have e' := Sl.bor.inj (Option.some.inj q)
        rw [← e', hj]
        obtain ⟨p', vs, h1, _, _, _, h5⟩ := h.bor i xs hi
        rw [hp] at h1
        cases h1
        exact ⟨p, us, hp, hu, hpf, hy, h5⟩
    · rw [List.getElem?_set_ne (Ne.symm hj)] at q
      obtain ⟨p', vs, h1, h2, h3, h4, h5⟩ := h.bor j zs q
      obtain ⟨g1, g2⟩ := other j p' vs hj (by rw [q]; rfl) h1 h2 h3
      exact ⟨p', vs, h1, g1, g2, h4.mono e.ff, h5⟩
theorem Rep.slot {i : Nat} (h : Rep T K B r σ F H) (n : notOwn r[i]? = false) : ∃ p : Addr, σ[i]? = some (some (.ref p)) := by
  cases e : r[i]? with
  | none =>
    rw [e] at n
    cases n
  | some s =>
    cases s with
    | own xs =>
      obtain ⟨p, _, h1, _⟩ := h.own i xs e
      exact ⟨p, h1⟩
    | bor xs =>
      obtain ⟨p, _, h1, _⟩ := h.bor i xs e
      exact ⟨p, h1⟩
    | _ =>
      rw [e] at n
      cases n
/-- a list outside the data is written -/
theorem Ext.write (s : Same F H) (t : LamX.Tabs T H) (n : NT F) {p : Addr} {vs us : List V} (hp : H p = some (.lst vs)) (hf : F p = none) : Ext T ⟨fun b => b = p, F, H⟩ F (upd H p (.lst us)) where
  ff := Same.refl _
  sub := fun b o e => by
    have hb : b ≠ p := ne_of_none e hf
    rw [upd_ne hb]
    exact s b o e
  hh := fun b o h n nb => by
    rw [upd_ne nb]
    exact h
  nf := fun b o h n z => z
  ob := fun b hb => by
    have hb : b = p := hb
    subst hb
    exact ⟨_, upd_same, not_lst, hf⟩
  nt := n
  tb := fun q hq => by
    obtain ⟨ps, h1, h2, h3⟩ := t q hq
    have n1 : q.1 ≠ p := fun z => by
      rw [z, hp] at h1
      cases h1
    refine ⟨ps, by rw [upd_ne n1]; exact h1, h2, fun pos c hc => ?_⟩
    obtain ⟨a, e1, e2⟩ := h3 pos c hc
    have n2 : a ≠ p := fun z => by
      rw [z, hp] at e2
      cases e2
    exact ⟨a, e1, by rw [upd_ne n2]; exact e2⟩
end
theorem at_get {K : PySem.W.Frag} {F : Hp} {us : List V} {ys : List D} {j : Int} {z : D} (h : Dvs K F us ys) (e : atD ys j = some z) : ∃ v, atI us j = some v ∧ Dv K F v z := by
  unfold atD at e
  unfold atI ixN
  have hl := h.len
  split at e
  · rename_i h0
    obtain ⟨v, h1, h2⟩ := h.get e
    have hlt := (List.getElem?_eq_some_iff.mp h1).1
    exact ⟨v, by rw [if_pos h0, if_pos (by omega)]; exact h1, h2⟩
  · rename_i h0
    split at e
    · rename_i h1
      obtain ⟨v, g1, g2⟩ := h.get e
      exact ⟨v, by rw [if_neg h0, if_pos (by omega), hl]; exact g1, g2⟩
    · cases e
section
variable {T : List (Addr × Str)} {cv : Nat → Value} {X : Cx} {E : XK} {e a b c : Expr} {es : List Expr} {pos : Pos} {fa fb fc : M D} {fs : M (List D)}
theorem de_call {x : Str} {p : Pos} {k n : Nat} {f : List D → Ro} (tk : Tk X E) (G : Has X.prog X.w X.K X.mg X.base T cv k x n f) (hr : Room k X.A) (hg : Gl X x) (ha : DA T cv X E (e :: es) fs) (hl : Ln fs n) (hdb : (x == ("__debug__" : Str)) = false := by decide)
    (he : starEach (e :: es) X.env = (false, eval e X.env) :: starEach es X.env := by rfl) (hpl : (backTo pos (starEach es X.env)).any (·.1) = false := by rfl) : DE T cv X E (.Call (.Name x p) (e :: es) [] pos) (eCall f fs) := by
  obtain ⟨t, pp, q⟩ := ha
  obtain ⟨ad, fd, ps, g1, g2, g3, g4⟩ := G
  refine ⟨_, pe_callS (E := fun _ => E) g4 hr hg g1 g2 g3 (fun σ => L2N.passAt tk σ) pp hdb he hpl, fun B r σ F H Q rep h => ?_⟩
  refine q B r σ F H _ rep (Po.bind h fun ds r1 F1 H1 xs er s1 rep1 dxs h1 => ?_)
  refine ⟨F1, ds, by rw [dxs.len]; exact hl r ds r1 er, rep1.ext.sub, ⟨rep1.ext.tb, rep1.ext.nt⟩, dxs, ?_⟩
  cases ef : f ds with
  | ok d =>
    rw [ef] at h1
    exact fun F' H' v e dv => h1 F' H' v e.ff (rep1.call e) dv
  | exc c =>
    rw [ef] at h1
    exact fun F' H' e => h1 F' H' e.ff (rep1.call e)
  | bad =>
    rw [ef] at h1
    exact h1
theorem de_callO {x y : Str} {p py : Pos} {k n i : Nat} {f : List D → List D → Rw} (tk : Tk X E) (G : HasO X.prog X.w X.K X.mg X.base T cv k x (n + 1) f) (hr : Room k X.A) (hg : Gl X x) (hN : X.N[i]? = some y) (hv : Vis X.env.scope y) (ha : DA T cv X E es fs) (hl : Ln fs n) (hdb : (x == ("__debug__" : Str)) = false := by decide)
    (hs : starEach (.Name y py :: es) X.env = (false, eval (.Name y py) X.env) :: starEach es X.env := by rfl) (hpl : (backTo pos (starEach es X.env)).any (·.1) = false := by rfl)
    (hd : (y == ("__debug__" : Str)) = false := by decide) (hcd : (y == ("__classdict__" : Str)) = false := by decide) : DE T cv X E (.Call (.Name x p) (.Name y py :: es) [] pos) (eCallO f i fs) := by
  obtain ⟨t, pp, q⟩ := ha
  obtain ⟨ad, fd, ps, g1, g2, g3, g4⟩ := G
  refine ⟨_, pe_callS (E := fun _ => E) g4 hr hg g1 g2 g3 (fun σ => L2N.passAt tk σ) (pa_cons (pe_var hN hv hd hcd) pp hs) hdb hs hpl, fun B r σ F H Q rep h => ?_⟩
  unfold eCallO at h
  split at h
  · rename_i ys0 hi0
    obtain ⟨p0, us0, hp0, _⟩ := rep.bor i ys0 hi0
    refine ⟨.ref p0, hp0, ?_⟩
    refine q B r σ F H _ rep (Po.bind h fun ds r1 F1 H1 xs er s1 rep1 dxs h1 => ?_)
    cases hi : r1[i]? with
    | none =>
      rw [hi] at h1
      exact h1.elim
    | some s =>
      rw [hi] at h1
      cases s with
      | bor ys =>
        obtain ⟨p', us, k1, k2, k3, k4, k5⟩ := rep1.bor i ys hi
        rw [hp0] at k1
        cases k1
        refine ⟨F1, p0, us, ys, xs, ds, rfl, by rw [List.length_cons, dxs.len, hl r ds r1 er], rep1.ext.sub, ⟨rep1.ext.tb, rep1.ext.nt⟩, k2, k3, k4, dxs, ?_⟩
        cases ef : f ys ds with
        | ok d zs =>
          simp only [ef] at h1
          exact fun F' H' v us' e hu dz dv => h1 F' H' v e.ff (rep1.turn hi (.inr ⟨rfl, rfl⟩) hp0 e hu dz) dv
        | exc c zs =>
          simp only [ef] at h1
          exact fun F' H' us' e hu dz => h1 F' H' e.ff (rep1.turn hi (.inr ⟨rfl, rfl⟩) hp0 e hu dz)
        | bad =>
          simp only [ef] at h1
          exact h1.elim
      | _ => exact h1.elim
  · exact h.elim
theorem de_ixO {i : Nat} {y : Str} {py : Pos} (hN : X.N[i]? = some y) (hv : Vis X.env.scope y) (hb : DE T cv X E b fb) (hs : PlainIx b) (hd : (y == ("__debug__" : Str)) = false := by decide) (hcd : (y == ("__classdict__" : Str)) = false := by decide) :
    DE T cv X E (.Subscript (.Name y py) b pos) (eIxO i fb) := by
  obtain ⟨tb, pb, qb⟩ := hb
  refine ⟨_, pe_ix ix_list (pe_var hN hv hd hcd) pb hs, fun B r σ F H Q rep h => ?_⟩
  unfold eIxO at h
  split at h
  · exact h.elim
  rename_i hno
  have main : ∀ p0 : Addr, σ[i]? = some (some (.ref p0)) → tOp (rIxL X.K) (tVar i) tb σ H Q := fun p0 hp0 => by
    refine ⟨.ref p0, hp0, ?_⟩
    refine qb B r σ F H _ rep (Po.bind h fun d r1 F1 H1 x er s1 rep1 dx h1 => ?_)
    have fin : ∀ (ys : List D) (us : List V) (j : Int), x = .int j → H1 p0 = some (.lst us) → Dvs X.K F1 us ys → PoE T cv X.K B σ F1 E Q (R.lift (atD ys j) r1) → rIxL X.K (.ref p0) x H1 Q := fun ys us j ex hu du hj => by
      obtain ⟨z, ez, q⟩ := hj.lift
      obtain ⟨v, hv', dv⟩ := at_get du ez
      exact ⟨p0, us, j, v, rfl, ex, SqL.of hu, hv', q F1 H1 v (Same.refl _) rep1 dv⟩
    split at h1
    · rename_i ys j hi
      obtain ⟨p', us, k1, k2, k3, k4, k5⟩ := rep1.own i ys hi
      rw [hp0] at k1
      cases k1
      cases dx
      exact fin ys us j rfl k2 k4 h1
    · rename_i ys j hi
      obtain ⟨p', us, k1, k2, k3, k4, k5⟩ := rep1.bor i ys hi
      rw [hp0] at k1
      cases k1
      cases dx
      exact fin ys us j rfl k2 k4 h1
    · exact h1.elim
  obtain ⟨p0, hp0⟩ := rep.slot (i := i) (by simpa using hno)
  exact main p0 hp0
end
/-! ### statements -/
section
variable (T : List (Addr × Str)) (cv : Nat → Value)
def PoS (K : PySem.W.Frag) (B : Bs) (F : Hp) (E : XK) (D : Ends) : R Fl → Prop
  | .ok .nx r => ∀ σ' F' H', Same F F' → Rep T K B r σ' F' H' → D.nx σ' H'
  | .ok (.ret d) r => ∀ σ' F' H' v, Same F F' → Rep T K B r σ' F' H' → Dv K F' v d → D.rt v H'
  | .exc c r => ∀ σ' F' H', Same F F' → Rep T K B r σ' F' H' → E (cv c) none H'
  | .bad => False
def DS (X : Cx) (E : XK) (st : Stmt) (f : M Fl) : Prop := ∃ t, PS X st t ∧ ∀ B r σ F H D, Rep T X.K B r σ F H → PoS T cv X.K B F E D (f r) → t D σ H
def DSs (X : Cx) (E : XK) (st : List Stmt) (f : M Fl) : Prop := ∃ t, PSs X st t ∧ ∀ B r σ F H D, Rep T X.K B r σ F H → PoS T cv X.K B F E D (f r) → t D σ H
/-- a target, the slots that it writes -/
def DG (X : Cx) (tg : Expr) (g : Tg) (vs : List Nat) : Prop := ∃ t, PG X tg t ∧ ∀ B r σ F H v d r' Q, Rep T X.K B r σ F H → Dv X.K F v d → g d r = some r' → (∀ σ', Rep T X.K B r' σ' F H → wipe σ' vs = wipe σ vs → Q σ' H) → t v σ H Q
def DGs (X : Cx) (tgs : List Expr) (vs : List Nat) : Prop := ∃ t, PGs X tgs t ∧ ∀ B r σ F H us ds Q, Rep T X.K B r σ F H → Dvs X.K F us ds → ds.length = vs.length → (∀ σ', Rep T X.K B (setAll vs ds r) σ' F H → wipe σ' vs = wipe σ vs → Q σ' H) → t us σ H Q
/-- what an iterator yields, over the data at F -/
def Wk (K : PySem.W.Frag) (F : Hp) (J : It) (xs : List D) : Prop := ∀ (i : Nat) H, Same F H → (xs.length = i → J.stop i H) ∧ ∀ d, xs[i]? = some d → J.go i H ∧ ∀ x H', J.yld i H x H' →
  (H' = H ∧ Dv K F x d) ∨ ∃ p us ds, H p = none ∧ H' = upd H p (.tup us) ∧ x = .ref p ∧ d = .tup ds ∧ Dvs K F us ds
def DI (X : Cx) (E : XK) (tg iter : Expr) (f : M (List D)) : Prop := ∃ wi, PI X tg iter wi ∧ ∀ B r σ F H (Rr : It → Hp → Prop), Rep T X.K B r σ F H → Po T cv (Wk X.K) X.K B σ F E Rr (f r) → wi σ H Rr
end
section
variable {T : List (Addr × Str)} {cv : Nat → Value} {K : PySem.W.Frag} {B : Bs} {r : En} {σ : St} {F F1 H : Hp} {E : XK} {Dd : Ends}
theorem PoS.from {x : R Fl} (s : Same F F1) (h : PoS T cv K B F E Dd x) : PoS T cv K B F1 E Dd x := by
  cases x with
  | ok a r =>
    cases a with
    | nx => exact fun σ' F' H' s' => h σ' F' H' (s.trans s')
    | ret d => exact fun σ' F' H' v s' => h σ' F' H' v (s.trans s')
  | exc c r => exact fun σ' F' H' s' => h σ' F' H' (s.trans s')
  | bad => exact h
theorem PoS.bind {α β : Type} {RA : Hp → β → α → Prop} {Q1 : β → Hp → Prop} {x : R α} {f : α → En → R Fl} (h : PoS T cv K B F E Dd (x.andThen f))
    (k : ∀ a r F1 H1 v, x = .ok a r → Same F F1 → Rep T K B r σ F1 H1 → RA F1 v a → PoS T cv K B F1 E Dd (f a r) → Q1 v H1) : Po T cv RA K B σ F E Q1 x := by
  cases x with
  | ok a r => exact fun F' H' v s rep rel => k a r F' H' v rfl s rep rel (PoS.from s h)
  | exc c r => exact fun F' H' s rep => h σ F' H' s rep
  | bad => exact h
end
section
variable {T : List (Addr × Str)} {cv : Nat → Value} {X : Cx} {E : XK} {e a b c tg iter : Expr} {es : List Expr} {pos : Pos} {fa fb fc : M D} {fs fi : M (List D)} {st : Stmt} {rest : List Stmt} {f g : M Fl} {tA : M Bool}
/-! ### targets -/
theorem dg_n {i : Nat} {x : Str} (hN : X.N.Nodup) (hi : X.N[i]? = some x) (hx : Loc X.env.scope x) (hf : X.fn x = true ∨ X.env.scope.names.lookup x = some .local := by first | exact .inl rfl | exact .inr rfl | assumption) : DG T X (.Name x pos) (gN i) [i] := by
  refine ⟨_, pg_name hN hi hx hf, fun B r σ F H v d r' Q rep dv e q => ?_⟩
  cases e
  refine q _ (rep.set_dat i dv) ?_
  show ((σ.set i (some v)).set i none) = σ.set i none
  rw [List.set_set]
theorem dgs_nil : DGs T X [] [] := ⟨_, pgs_nil, fun B r σ F H us ds Q rep d hl q => by
  cases d with
  | nil => exact ⟨rfl, q σ rep rfl⟩
  | cons _ _ => cases hl⟩
theorem wipe_set {σ : St} {i : Nat} {x : Option V} : ∀ vs : List Nat, i ∉ vs → wipe (σ.set i x) vs = (wipe σ vs).set i x
  | [], _ => rfl
  | v :: vs, h => by
    have h1 : i ≠ v := fun z => h (by rw [z]; exact List.mem_cons_self)
    have h2 : i ∉ vs := fun z => h (List.mem_cons_of_mem _ z)
    show (wipe (σ.set i x) vs).set v none = ((wipe σ vs).set v none).set i x
    rw [wipe_set vs h2, List.set_comm _ _ h1]
theorem dgs_cons {i : Nat} {x : Str} {vs : List Nat} {px : Pos} (hN : X.N.Nodup) (hi : X.N[i]? = some x) (hx : Loc X.env.scope x) (hr : DGs T X es vs) (hn : i ∉ vs := by decide)
    (hs : (assignEach (.Name x px :: es) X.env).map (·.2) = assign (.Name x px) X.env :: (assignEach es X.env).map (·.2) := by rfl)
    (hf : X.fn x = true ∨ X.env.scope.names.lookup x = some .local := by first | exact .inl rfl | exact .inr rfl | assumption) : DGs T X (.Name x px :: es) (i :: vs) := by
  obtain ⟨t, p, q⟩ := hr
  refine ⟨_, pgs_cons (pg_name hN hi hx hf) p hs, fun B r σ F H us ds Q rep d hl k => ?_⟩
  cases d with
  | nil => cases hl
  | cons dv dvs =>
    rename_i v us' d ds'
    refine ⟨v, us', rfl, ?_⟩
    refine q B _ _ F H us' ds' Q (rep.set_dat i dv) dvs (by simpa using hl) fun σ' rep' hw => k σ' rep' ?_
    show (wipe σ' vs).set i none = (wipe σ vs).set i none
    rw [hw, wipe_set vs hn, List.set_set]
theorem dg_t {k : Nat} {vs : List Nat} (hc : X.calm = true) (h : DGs T X es vs) (hn : (assignEach es X.env).length = vs.length := by rfl) (hst : (assignEach es X.env).findIdx? (·.1) = none := by rfl) : DG T X (.Tuple es k pos) (gT vs) vs := by
  obtain ⟨t, p, q⟩ := h
  refine ⟨_, pg_tup hc p hn hst, fun B r σ F H v d r' Q rep dv e k => ?_⟩
  unfold gT at e
  cases dv with
  | tup hF dvs =>
    rename_i a us ds
    dsimp only at e
    split at e
    · rename_i hl
      cases e
      exact ⟨a, us, rfl, SqT.of (rep.ext.sub _ _ hF), by rw [dvs.len]; exact hl, q B r σ F H us ds Q rep dvs hl k⟩
    · cases e
  | _ => cases e
/-! ### blocks -/
theorem dss_nil : DSs T cv X E [] sNil := ⟨_, pss_nil, fun B r σ F H D rep h => h σ F H (Same.refl _) rep⟩
theorem dss_cons (h1 : DS T cv X E st f) (h2 : DSs T cv X E rest g) : DSs T cv X E (st :: rest) (sSeq f g) := by
  obtain ⟨t, p, q⟩ := h1
  obtain ⟨t', p', q'⟩ := h2
  refine ⟨_, pss_cons p p', fun B r σ F H D rep h => ?_⟩
  refine q B r σ F H _ rep ?_
  have h : PoS T cv X.K B F E D (sSeq f g r) := h
  unfold sSeq at h
  cases ef : f r with
  | ok a r1 =>
    rw [ef] at h
    cases a with
    | nx => exact fun σ' F' H' s rep' => q' B r1 σ' F' H' D rep' (PoS.from s h)
    | ret d => exact h
  | exc c r1 =>
    rw [ef] at h
    exact h
  | bad =>
    rw [ef] at h
    exact h
theorem dss_one (h1 : DS T cv X E st f) : DSs T cv X E [st] f := by
  obtain ⟨t, p, q⟩ := h1
  exact ⟨t, pss_one p, q⟩
theorem ds_set {i : Nat} {x : Str} {px : Pos} (hN : X.N.Nodup) (hi : X.N[i]? = some x) (hx : Loc X.env.scope x) (he : DE T cv X E e fa) (hs : swapsWith e (some (.Name x px)) pos.line X.env = pure false := by rfl) (hf : X.fn x = true ∨ X.env.scope.names.lookup x = some .local := by first | exact .inl rfl | exact .inr rfl | assumption) :
    DS T cv X E (.Assign [.Name x px] e pos) (sSet i fa) := by
  obtain ⟨t, p, q⟩ := he
  refine ⟨_, ps_set hN hi hx p hs hf, fun B r σ F H D rep h => ?_⟩
  refine q B r σ F H _ rep (PoS.bind h fun d r1 F1 H1 v er s1 rep1 dv h1 => ?_)
  exact h1 _ _ _ (Same.refl _) (rep1.set_dat i dv)
theorem ds_asg {g : Tg} {vs : List Nat} (he : DE T cv X E e fa) (hg : DG T X tg g vs) (hs : swapsWithSole [tg] e pos.line X.env = pure false := by rfl) (hw : swappedStores [tg] e X.env = pure none := by rfl)
    (h1 : (assignEach [tg] X.env).map (·.2) = [assign tg X.env] := by rfl) : DS T cv X E (.Assign [tg] e pos) (sAsg g fa) := by
  obtain ⟨t, p, q⟩ := he
  obtain ⟨t', p', q'⟩ := hg
  refine ⟨_, ps_asg p p' hs hw h1, fun B r σ F H D rep h => ?_⟩
  refine q B r σ F H _ rep (PoS.bind h fun d r1 F1 H1 v er s1 rep1 dv h1 => ?_)
  cases eg : g d r1 with
  | none =>
    rw [eg] at h1
    exact h1.elim
  | some r2 =>
    rw [eg] at h1
    exact q' B r1 σ F1 H1 v d r2 _ rep1 dv eg fun σ' rep' _ => h1 σ' F1 H1 (Same.refl _) rep'
theorem ds_par {i j : Nat} {x y : Str} {px py pt : Pos} {kt k2 : Nat} {pt2 : Pos} (hc : X.calm = true) (hN : X.N.Nodup) (hi : X.N[i]? = some x) (hj : X.N[j]? = some y) (hij : i ≠ j)
    (hx : X.env.scope.names.lookup x = some .local) (hy : X.env.scope.names.lookup y = some .local) (ha : DE T cv X E a fa) (hb : DE T cv X E b fb)
    (hw : swappedStores [.Tuple [.Name x px, .Name y py] kt pt] (.Tuple [a, b] k2 pt2) X.env = pure (some [x, y]))
    (hs : swapsWithSole [.Tuple [.Name x px, .Name y py] kt pt] (.Tuple [a, b] k2 pt2) pos.line X.env = pure false := by rfl)
    (h1 : starEach [a, b] X.env = (false, eval a X.env) :: starEach [b] X.env := by rfl) (h2 : starEach [b] X.env = (false, eval b X.env) :: starEach [] X.env := by rfl) :
    DS T cv X E (.Assign [.Tuple [.Name x px, .Name y py] kt pt] (.Tuple [a, b] k2 pt2) pos) (sPar i j fa fb) := by
  obtain ⟨t, p, q⟩ := ha
  obtain ⟨t', p', q'⟩ := hb
  refine ⟨_, ps_par hc hN hi hj hij hx hy (pa_cons p (pa_cons p' pa_nil h2) h1) hw hs, fun B r σ F H D rep h => ?_⟩
  refine q B r σ F H _ rep (PoS.bind h fun d r1 F1 H1 v er s1 rep1 dv h1 => ?_)
  refine q' B r1 σ F1 H1 _ rep1 (PoS.bind h1 fun d2 r2 F2 H2 w er2 s2 rep2 dw h2 => ?_)
  exact ⟨v, w, rfl, h2 _ _ _ (Same.refl _) ((rep2.set_dat i (dv.mono s2)).set_dat j dw)⟩
theorem ds_aug {i : Nat} {x : Str} {op : Operator} {px : Pos} {ti : TIp} {ff : D → D → Option D} (hN : X.N.Nodup) (hi : X.N[i]? = some x) (hx : Loc X.env.scope x) (he : DE T cv X E e fa) (ho : PIp X op ti) (o : Op2 T X.K ti ff)
    (hf : X.fn x = true ∨ X.env.scope.names.lookup x = some .local := by first | exact .inl rfl | exact .inr rfl | assumption) : DS T cv X E (.AugAssign (.Name x px) op e pos) (sAug ff i fa) := by
  obtain ⟨t, p, q⟩ := he
  refine ⟨_, ps_aug hN hi hx p ho hf, fun B r σ F H D rep h => ?_⟩
  unfold sAug at h
  split at h
  · rename_i d hd
    obtain ⟨v, h1, h2⟩ := rep.dat i d hd
    refine ⟨v, h1, ?_⟩
    refine q B r σ F H _ rep (PoS.bind h fun d2 r1 F1 H1 w er s1 rep1 dw h3 => ?_)
    cases ez : ff d d2 with
    | none =>
      rw [ez] at h3
      exact h3.elim
    | some z =>
      rw [ez] at h3
      exact o B r1 σ F1 H1 v w d d2 z _ rep1 (h2.mono s1) dw ez fun F' H' u s' rep' du => h3 _ F' H' s' (rep'.set_dat i du)
  · exact h.elim
theorem ds_ret (he : DE T cv X E e fa) : DS T cv X E (.Return (some e) pos) (sRet fa) := by
  obtain ⟨t, p, q⟩ := he
  refine ⟨_, ps_ret p, fun B r σ F H D rep h => ?_⟩
  exact q B r σ F H _ rep (PoS.bind h fun d r1 F1 H1 v er s1 rep1 dv h1 => h1 σ F1 H1 v (Same.refl _) rep1 dv)
theorem ds_exp (he : DE T cv X E e fa) (hs : swapsWith e none pos.line X.env = pure false := by rfl) : DS T cv X E (.Expr e pos) (sExp fa) := by
  obtain ⟨t, p, q⟩ := he
  refine ⟨_, ps_expr p hs, fun B r σ F H D rep h => ?_⟩
  exact q B r σ F H _ rep (PoS.bind h fun d r1 F1 H1 v er s1 rep1 dv h1 => h1 σ F1 H1 (Same.refl _) rep1)
theorem ds_if {sa sb : List Stmt} (hc : DT T cv X E c tA) (ha : DSs T cv X E sa f) (hb : DSs T cv X E sb g) : DS T cv X E (.If c sa sb pos) (sIf tA f g) := by
  obtain ⟨tc, pc, qc⟩ := hc
  obtain ⟨t, p, q⟩ := ha
  obtain ⟨t', p', q'⟩ := hb
  refine ⟨_, ps_if pc p p', fun B r σ F H D rep h => ?_⟩
  refine qc B r σ F H _ rep (PoS.bind h fun k r1 F1 H1 x _ s1 rep1 dx h1 => ?_)
  subst dx
  cases x with
  | true => exact iteT (q B r1 σ F1 H1 D rep1 h1)
  | false => exact iteF (q' B r1 σ F1 H1 D rep1 h1)
/-! ### loops -/
theorem ds_while {body : List Stmt} (n : Nat) (hp : PassesOwn (model X.prog X.w) X.A X.env X.xe) (hc : DT T cv X E c tA) (hb : DSs T cv X E body f) : DS T cv X E (.While c body [] pos) (sWhile tA f n) := by
  obtain ⟨tc, pc, qc⟩ := hc
  obtain ⟨t, p, q⟩ := hb
  refine ⟨_, ps_while hp pc p, fun B r σ F H D rep h => ?_⟩
  refine ⟨fun m σ' H' => ∃ r' F', Same F F' ∧ Rep T X.K B r' σ' F' H' ∧ PoS T cv X.K B F' E D (sWhile tA f m r'), ⟨n, r, F, Same.refl _, rep, h⟩, ?_⟩
  rintro m σ1 H1 ⟨r1, F1, s1, rep1, h1⟩
  cases m with
  | zero => exact h1.elim
  | succ m =>
    refine qc B r1 σ1 F1 H1 _ rep1 (PoS.bind h1 fun k r2 F2 H2 x _ s2 rep2 dx h2 => ?_)
    subst dx
    cases x with
    | false => exact iteF (h2 σ1 F2 H2 (Same.refl _) rep2)
    | true =>
      refine iteT ⟨fun σ' H' => ∃ r' F', Same F F' ∧ Rep T X.K B r' σ' F' H' ∧ PoS T cv X.K B F' E D (sWhile tA f m r'), fun σ' H' w => ⟨m, Nat.lt_succ_self m, w⟩, ?_⟩
      refine q B r2 σ1 F2 H2 _ rep2 ?_
      rw [if_pos rfl] at h2
      cases ef : f r2 with
      | ok fl r3 =>
        rw [ef] at h2
        cases fl with
        | nx => exact fun σ' F' H' s rep' => ⟨r3, F', (s1.trans s2).trans s, rep', PoS.from s h2⟩
        | ret d => exact h2
      | exc c r3 =>
        rw [ef] at h2
        exact h2
      | bad =>
        rw [ef] at h2
        exact h2
theorem ds_for {body : List Stmt} {g : Tg} {vs : List Nat} (hp : PassesOwn (model X.prog X.w) X.A X.env X.xe) (hc : X.calm = true) (hi : DI T cv X E tg iter fi) (hg : DG T X tg g vs) (hb : DSs T cv X E body f)
    (hs : ∀ x, foldedSetIterable iter X.env x = pure x := by intro _; rfl) : DS T cv X E (.For tg iter body [] pos) (sFor fi g f) := by
  obtain ⟨wi, pi, qi⟩ := hi
  obtain ⟨tg', pg, qg⟩ := hg
  obtain ⟨t, p, q⟩ := hb
  refine ⟨_, ps_for hp hc pi pg p hs, fun B r σ F H D rep h => ?_⟩
  refine qi B r σ F H _ rep (PoS.bind h fun xs r1 F1 H1 J er s1 rep1 wk h1 => ?_)
  refine ⟨fun i m σ' H' => m = xs.length - i ∧ i ≤ xs.length ∧ ∃ r' F', Same F1 F' ∧ Rep T X.K B r' σ' F' H' ∧ PoS T cv X.K B F' E D (forGo g f (xs.drop i) r'), ⟨xs.length, rfl, Nat.zero_le _, r1, F1, Same.refl _, rep1, h1⟩, ?_⟩
  rintro i m σ2 H2 ⟨rfl, hi, r2, F2, s2, rep2, h2⟩
  obtain ⟨stop, go⟩ := wk i H2 (s2.trans rep2.ext.sub)
  by_cases hlt : i < xs.length
  · obtain ⟨hgo, hy⟩ := go xs[i] (List.getElem?_eq_getElem hlt)
    rw [List.drop_eq_getElem_cons hlt] at h2
    refine .inr ⟨hgo, fun σ' H' => ∃ r' F', Same F1 F' ∧ Rep T X.K B r' σ' F' H' ∧ PoS T cv X.K B F' E D (forGo g f (xs.drop (i + 1)) r'), fun σ' H' w => ⟨xs.length - (i + 1), by omega, rfl, hlt, w⟩, fun x H3 yl => ?_⟩
    have body : ∀ F3, Same F2 F3 → Rep T X.K B r2 σ2 F3 H3 → Dv X.K F3 x xs[i] → tg' x σ2 H3 fun σ2 H2 => t { D with nx := fun σ' H' => ∃ r' F', Same F1 F' ∧ Rep T X.K B r' σ' F' H' ∧ PoS T cv X.K B F' E D (forGo g f (xs.drop (i + 1)) r'), ct := fun σ' H' => ∃ r' F', Same F1 F' ∧ Rep T X.K B r' σ' F' H' ∧ PoS T cv X.K B F' E D (forGo g f (xs.drop (i + 1)) r'), bk := D.nx } σ2 H2 := fun F3 s3 rep3 dv => by
      unfold forGo at h2
      cases eg : g xs[i] r2 with
      | none =>
        rw [eg] at h2
        exact h2.elim
      | some r3 =>
        rw [eg] at h2
        refine qg B r2 σ2 F3 H3 x xs[i] r3 _ rep3 dv eg fun σ' rep' _ => ?_
        refine q B r3 σ' F3 H3 _ rep' ?_
        dsimp only at h2
        cases ef : f r3 with
        | ok fl r4 =>
          rw [ef] at h2
          cases fl with
          | nx => exact fun σ4 F4 H4 s4 rep4 => ⟨r4, F4, (s2.trans s3).trans s4, rep4, PoS.from (s3.trans s4) h2⟩
          | ret d => exact fun σ4 F4 H4 v s4 => h2 σ4 F4 H4 v (s3.trans s4)
        | exc c r4 =>
          rw [ef] at h2
          exact fun σ4 F4 H4 s4 => h2 σ4 F4 H4 (s3.trans s4)
        | bad =>
          rw [ef] at h2
          exact h2
    rcases hy x H3 yl with ⟨e, dv⟩ | ⟨p0, us, ds, hn, e, ex, ed, dvs⟩
    · subst e
      exact body F2 (Same.refl _) rep2 (dv.mono s2)
    · subst e
      have n0 := rep2.free hn
      refine body (upd F2 p0 (.tup us)) (same_upd n0) (rep2.fresh hn not_tup) ?_
      rw [ex, ed]
      exact .tup upd_same (dvs.mono (s2.trans (same_upd n0)))
  · have e : i = xs.length := by omega
    subst e
    rw [List.drop_length] at h2
    exact .inl ⟨stop rfl, h2 σ2 F2 H2 (Same.refl _) rep2⟩
end
end FB
/-! Lists of one's own, raising, comprehensions, what is walked, defs. -/
namespace FB
open PySem PySem.Spec L2
open PyProof.Rows (envOfC)
section
variable {T : List (Addr × Str)} {cv : Nat → Value} {K : PySem.W.Frag} {B : Bs} {r : En} {σ : St} {F F1 H H1 F' H' : Hp} {E : XK}
theorem Ext.fresh_of (e : Ext T B F H) {p : Addr} (hp : H p = none) : Fresh B p ∧ ¬ B.O p := by
  have no : ¬ B.O p := fun z => by
    obtain ⟨o, h1, _⟩ := e.ob p z
    rw [hp] at h1
    cases h1
  refine ⟨fun o ho n => ?_, no⟩
  have z := e.hh p o ho n no
  rw [hp] at z
  cases z
/-- slot i gets a new list of its own -/
theorem Rep.set_own (h : Rep T K B r σ F H) (i : Nat) {p : Addr} {vs : List V} {ds : List D} (hp : H p = none) (hd : Dvs K F vs ds) : Rep T K B (r.set i (.own ds)) (σ.set i (some (.ref p))) F (upd H p (.lst vs)) := by
  have g := h.fresh' (o := .lst vs) hp
  have fr := h.ext.fresh_of hp
  have neq : ∀ (j : Nat) q, notOwn r[j]? = false → σ[j]? = some (some (.ref q)) → q ≠ p := fun j q n e z => by
    cases ej : r[j]? with
    | none =>
      rw [ej] at n
      cases n
    | some s =>
      cases s with
      | own xs =>
        obtain ⟨p', us, h1, h2, _⟩ := h.own j xs ej
        rw [e] at h1
        cases h1
        rw [z, hp] at h2
        cases h2
      | bor xs =>
        obtain ⟨p', us, h1, h2, _⟩ := h.bor j xs ej
        rw [e] at h1
        cases h1
        rw [z, hp] at h2
        cases h2
      | _ =>
        rw [ej] at n
        cases n
  have inl : ∀ (j : Nat) s, (r.set i (.own ds))[j]? = some s → (j = i ∧ j < r.length ∧ s = .own ds) ∨ (j ≠ i ∧ r[j]? = some s) := fun j s e => by
    by_cases hj : j = i
    · subst hj
      by_cases hl : j < r.length
      · rw [List.getElem?_set_self hl] at e
        exact .inl ⟨rfl, hl, (Option.some.inj e).symm⟩
      · rw [List.getElem?_eq_none (by simpa using hl)] at e
        cases e
    · rw [List.getElem?_set_ne (Ne.symm hj)] at e
      exact .inr ⟨hj, e⟩
  refine ⟨g.ext, by rw [List.length_set, List.length_set, h.len], fun j d e => ?_, fun j xs e => ?_, fun j xs e => ?_, fun j k q e1 e2 e3 e4 => ?_⟩
  · rcases inl j _ e with ⟨_, _, z⟩ | ⟨hj, z⟩
    · cases z
    · obtain ⟨v, h1, h2⟩ := g.dat j d z
      exact ⟨v, by rw [List.getElem?_set_ne (Ne.symm hj)]; exact h1, h2⟩
  · rcases inl j _ e with ⟨hj, hl, z⟩ | ⟨hj, z⟩
    · have z := Sl.own.inj z
      subst z hj
      exact ⟨p, vs, List.getElem?_set_self (by rw [← h.len]; exact hl), upd_same, h.free hp, hd, fr⟩
    · obtain ⟨q, us, h1, h2⟩ := g.own j xs z
      exact ⟨q, us, by rw [List.getElem?_set_ne (Ne.symm hj)]; exact h1, h2⟩
  · rcases inl j _ e with ⟨_, _, z⟩ | ⟨hj, z⟩
    · cases z
    · obtain ⟨q, us, h1, h2⟩ := g.bor j xs z
      exact ⟨q, us, by rw [List.getElem?_set_ne (Ne.symm hj)]; exact h1, h2⟩
  · have at1 : ∀ j : Nat, notOwn (r.set i (.own ds))[j]? = false → (j = i ∧ j < r.length) ∨ (j ≠ i ∧ notOwn r[j]? = false) := fun j n => by
      by_cases hj : j = i
      · subst hj
        by_cases hl : j < r.length
        · exact .inl ⟨rfl, hl⟩
        · rw [List.getElem?_eq_none (by simpa using hl)] at n
          cases n
      · rw [List.getElem?_set_ne (Ne.symm hj)] at n
        exact .inr ⟨hj, n⟩
    have self : ∀ j : Nat, j = i → j < r.length → (σ.set i (some (.ref p)))[j]? = some (some (.ref q)) → q = p := fun j hj hl e => by
      subst hj
      rw [List.getElem?_set_self (by rw [← h.len]; exact hl)] at e
      cases e
      rfl
    rcases at1 j e1 with ⟨a1, a2⟩ | ⟨a1, a2⟩
    · rcases at1 k e2 with ⟨b1, b2⟩ | ⟨b1, b2⟩
      · rw [a1, b1]
      · rw [List.getElem?_set_ne (Ne.symm b1)] at e4
        exact absurd (self j a1 a2 e3) (neq k q b2 e4)
    · rw [List.getElem?_set_ne (Ne.symm a1)] at e3
      rcases at1 k e2 with ⟨b1, b2⟩ | ⟨b1, b2⟩
      · exact absurd (self k b1 b2 e4) (neq j q a2 e3)
      · rw [List.getElem?_set_ne (Ne.symm b1)] at e4
        exact h.apart j k q a2 b2 e3 e4
/-- a list becomes a datum -/
theorem Rep.freeze {i : Nat} {xs : List D} (h : Rep T K B r σ F H) (hi : r[i]? = some (.own xs)) : ∃ F', Same F F' ∧ Rep T K B (r.set i (.dat (.lst xs))) σ F' H := by
  obtain ⟨p, vs, h1, h2, h3, h4, h5⟩ := h.own i xs hi
  have hil : i < r.length := (List.getElem?_eq_some_iff.mp hi).1
  have sF : Same F (upd F p (.lst vs)) := same_upd h3
  have neq : ∀ (j : Nat) q, j ≠ i → notOwn r[j]? = false → σ[j]? = some (some (.ref q)) → q ≠ p := fun j q hj n e z => hj (h.apart j i p n (by rw [hi]; rfl) (by rw [← z]; exact e) h1)
  refine ⟨upd F p (.lst vs), sF, ⟨h.ext.ff.trans sF, fun b o e => ?_, h.ext.hh, fun b o e n z => ?_, fun b hb => ?_, h.ext.tb, h.ext.nt.upd not_lst⟩, by rw [List.length_set, h.len], fun j d e => ?_, fun j ys e => ?_, fun j ys e => ?_, fun j k q e1 e2 e3 e4 => ?_⟩
  · by_cases hb : b = p
    · subst hb
      rw [upd_same] at e
      rw [h2]
      exact e
    · rw [upd_ne hb] at e
      exact h.ext.sub b o e
  · have hb : b ≠ p := fun q => h5.1 o (by rw [← q]; exact e) n
    rw [upd_ne hb]
    exact h.ext.nf b o e n z
  · obtain ⟨o, g1, g2, g3⟩ := h.ext.ob b hb
    have hne : b ≠ p := fun q => h5.2 (by rw [← q]; exact hb)
    exact ⟨o, g1, g2, by rw [upd_ne hne]; exact g3⟩
  · by_cases hj : j = i
    · subst hj
      rw [List.getElem?_set_self hil] at e
      have e := Sl.dat.inj (Option.some.inj e)
      subst e
      exact ⟨.ref p, h1, .lst upd_same (h4.mono sF)⟩
    · rw [List.getElem?_set_ne (Ne.symm hj)] at e
      obtain ⟨v, g1, g2⟩ := h.dat j d e
      exact ⟨v, g1, g2.mono sF⟩
  · by_cases hj : j = i
    · subst hj
      rw [List.getElem?_set_self hil] at e
      cases e
    · rw [List.getElem?_set_ne (Ne.symm hj)] at e
      obtain ⟨q, us, g1, g2, g3, g4, g5⟩ := h.own j ys e
      exact ⟨q, us, g1, g2, by rw [upd_ne (neq j q hj (by rw [e]; rfl) g1)]; exact g3, g4.mono sF, g5⟩
  · by_cases hj : j = i
    · subst hj
      rw [List.getElem?_set_self hil] at e
      cases e
    · rw [List.getElem?_set_ne (Ne.symm hj)] at e
      obtain ⟨q, us, g1, g2, g3, g4, g5⟩ := h.bor j ys e
      exact ⟨q, us, g1, g2, by rw [upd_ne (neq j q hj (by rw [e]; rfl) g1)]; exact g3, g4.mono sF, g5⟩
  · have at1 : ∀ j : Nat, notOwn (r.set i (.dat (.lst xs)))[j]? = false → notOwn r[j]? = false := fun j n => by
      by_cases hj : j = i
      · subst hj
        rw [List.getElem?_set_self hil] at n
        cases n
      · rwa [List.getElem?_set_ne (Ne.symm hj)] at n
    exact h.apart j k q (at1 j e1) (at1 k e2) e3 e4
end
section
variable {T : List (Addr × Str)} {cv : Nat → Value} {X : Cx} {E : XK} {e a b c tg iter : Expr} {es : List Expr} {pos : Pos} {fa fb fc : M D} {fs fi : M (List D)} {st : Stmt} {rest : List Stmt} {f g : M Fl} {tA : M Bool}
theorem ds_newL {i : Nat} {x : Str} {px lpos : Pos} (hN : X.N.Nodup) (hi : X.N[i]? = some x) (hx : Loc X.env.scope x) (h : DA T cv X E es fs) (hl : ∀ r ds r', fs r = .ok ds r' → ds.length ≤ lim)
    (hs : swapsWith (.List es lpos) (some (.Name x px)) pos.line X.env = pure false := by rfl) (hf : X.fn x = true ∨ X.env.scope.names.lookup x = some .local := by first | exact .inl rfl | exact .inr rfl | assumption) :
    DS T cv X E (.Assign [.Name x px] (.List es lpos) pos) (sNewL i fs) := by
  obtain ⟨t, p, q⟩ := h
  refine ⟨_, ps_set hN hi hx (pe_lst p) hs hf, fun B r σ F H D rep h => ?_⟩
  refine q B r σ F H _ rep (PoS.bind h fun ds r1 F1 H1 vs er s1 rep1 dvs h1 => ?_)
  have z := hl r ds r1 er
  refine ⟨by rw [dvs.len]; exact Nat.le_trans z (by decide), fun p hp => ?_⟩
  exact h1 _ F1 _ (Same.refl _) (rep1.set_own i hp dvs)
theorem ds_app {i : Nat} {y : Str} {py apos cpos : Pos} (hN : X.N[i]? = some y) (hv : Vis X.env.scope y) (he : DE T cv X E e fa) (hd : (y == ("__debug__" : Str)) = false := by decide) (hcd : (y == ("__classdict__" : Str)) = false := by decide)
    (hbase : attributeBase (.Name y py) "append" X.env (eval (.Name y py) X.env) = eval (.Name y py) X.env := by rfl)
    (hfew : ((backTo cpos (starEach [e] X.env)).all (fun x => !x.1) && (backToKw cpos (keywordEach [] X.env)).all (fun x => x.1.isSome)
      && decide ([e].length + ([] : List Keyword).length + (if ([] : List Keyword).isEmpty then 0 else 1) < 30)) = true := by rfl)
    (hline : (apos.endLine == cpos.line) = true := by rfl) (hs : starEach [e] X.env = (false, eval e X.env) :: starEach [] X.env := by rfl) (hplain : (backTo cpos (starEach [] X.env)).any (·.1) = false := by rfl)
    (hsw : swapsWith (.Call (.Attribute (.Name y py) "append" apos) [e] [] cpos) none pos.line X.env = pure false := by rfl) :
    DS T cv X E (.Expr (.Call (.Attribute (.Name y py) "append" apos) [e] [] cpos) pos) (sApp i fa) := by
  obtain ⟨t, p, q⟩ := he
  refine ⟨_, ps_expr (pe_bm PySem.F.plainAttrs_list PySem.F.slot_list_append PySem.F.type_list_append mt_append (pe_var hN hv hd hcd) (pa_cons p pa_nil hs) hbase hfew hline hs hplain) hsw, fun B r σ F H D rep h => ?_⟩
  unfold sApp at h
  split at h
  · exact h.elim
  rename_i hno
  have hno : notOwn r[i]? = false := by simpa using hno
  obtain ⟨p0, hp0⟩ := rep.slot hno
  have isl : ∃ vs, H p0 = some (.lst vs) := by
    cases ej : r[i]? with
    | none =>
      rw [ej] at hno
      cases hno
    | some s =>
      cases s with
      | own xs =>
        obtain ⟨p', us, h1, h2, _⟩ := rep.own i xs ej
        rw [hp0] at h1
        cases h1
        exact ⟨us, h2⟩
      | bor xs =>
        obtain ⟨p', us, h1, h2, _⟩ := rep.bor i xs ej
        rw [hp0] at h1
        cases h1
        exact ⟨us, h2⟩
      | _ =>
        rw [ej] at hno
        cases hno
  obtain ⟨vs0, hv0⟩ := isl
  refine ⟨.ref p0, hp0, .inl ⟨rfl, _, SqL.of hv0⟩, ?_⟩
  refine q B r σ F H _ rep (PoS.bind h fun d r1 F1 H1 v er s1 rep1 dv h1 => ?_)
  split at h1
  · rename_i ys hi
    split at h1
    · rename_i hlt
      obtain ⟨p', us, k1, k2, k3, k4, k5⟩ := rep1.own i ys hi
      rw [hp0] at k1
      cases k1
      refine ⟨p0, us, v, rfl, rfl, k2, by rw [k4.len]; exact Nat.lt_trans hlt (by decide), ?_⟩
      exact h1 σ F1 _ (Same.refl _) (rep1.turn hi (.inl ⟨rfl, rfl⟩) hp0 (Ext.write rep1.ext.sub rep1.ext.tb rep1.ext.nt k2 k3) upd_same (k4.append (.cons dv .nil)))
    · exact h1.elim
  · exact h1.elim
theorem ds_put {i j : Nat} {y : Str} {py ipos spos : Pos} {jj : Nat} (hN : X.N[i]? = some y) (hv : Vis X.env.scope y) (he : DE T cv X E e fa) (hd : (y == ("__debug__" : Str)) = false := by decide) (hcd : (y == ("__classdict__" : Str)) = false := by decide)
    (hs : swapsWithSole [.Subscript (.Name y py) (.Constant (.int (j : Int)) jj ipos) spos] e pos.line X.env = pure false := by rfl) (hw : swappedStores [.Subscript (.Name y py) (.Constant (.int (j : Int)) jj ipos) spos] e X.env = pure none := by rfl)
    (h1 : (assignEach [.Subscript (.Name y py) (.Constant (.int (j : Int)) jj ipos) spos] X.env).map (·.2) = [assign (.Subscript (.Name y py) (.Constant (.int (j : Int)) jj ipos) spos) X.env] := by rfl) :
    DS T cv X E (.Assign [.Subscript (.Name y py) (.Constant (.int (j : Int)) jj ipos) spos] e pos) (sPut i j fa) := by
  obtain ⟨t, p, q⟩ := he
  refine ⟨_, ps_asg p (pg_sub (pe_var hN hv hd hcd) pe_int set_list) hs hw h1, fun B r σ F H D rep h => ?_⟩
  refine q B r σ F H _ rep (PoS.bind h fun d r1 F1 H1 v er s1 rep1 dv h1 => ?_)
  split at h1
  · rename_i ys hi
    split at h1
    · rename_i hlt
      obtain ⟨p', us, k1, k2, k3, k4, k5⟩ := rep1.bor i ys hi
      refine ⟨.ref p', k1, p', us, (j : Int), j, rfl, rfl, k2, ?_, ?_⟩
      · unfold ixN
        rw [if_pos (by omega), if_pos (by rw [k4.len]; omega)]
        rfl
      · exact h1 σ F1 _ (Same.refl _) (rep1.turn hi (.inr ⟨rfl, rfl⟩) k1 (Ext.write rep1.ext.sub rep1.ext.tb rep1.ext.nt k2 k3) upd_same (k4.set j dv))
    · exact h1.elim
  · exact h1.elim
theorem dss_frz (i : Nat) {sts : List Stmt} (h : DSs T cv X E sts f) : DSs T cv X E sts (sFrz i f) := by
  obtain ⟨t, p, q⟩ := h
  refine ⟨t, p, fun B r σ F H D rep h => ?_⟩
  unfold sFrz at h
  split at h
  · rename_i ys hi
    obtain ⟨F', s, rep'⟩ := rep.freeze hi
    exact q B _ σ F' H D rep' (PoS.from s h)
  · exact h.elim
/-- raise C('..') -/
theorem ds_raise {cn : Nat} (hc : X.calm = true) (tk : Tk X E) (he : L2N.PMk X e (fun _ H Q => Q (cv cn) none H)) : DS T cv X E (.Raise (some e) none pos) (sRaise cn) :=
  ⟨_, L2N.ps_raise hc tk he, fun B r σ F H D rep h => h σ F H (Same.refl _) rep⟩
end
/-! ### what is walked -/
section
variable {T : List (Addr × Str)} {cv : Nat → Value} {X : Cx} {E : XK} {e a b c tg iter : Expr} {es : List Expr} {pos : Pos} {fa fb fc : M D} {fs fi : M (List D)}
theorem wk_list {K : PySem.W.Frag} {F : Hp} {a : Addr} {vs : List V} {ds : List D} (h : F a = some (.lst vs)) (d : Dvs K F vs ds) : Wk K F (Itl K a) ds := fun i H s => by
  have hA : SqL K H a vs := SqL.of (s _ _ h)
  refine ⟨fun hi => ⟨vs, hA, by rw [d.len]; exact Nat.le_of_eq hi⟩, fun x hx => ?_⟩
  obtain ⟨v, h1, h2⟩ := d.get hx
  exact ⟨⟨vs, v, hA, h1⟩, fun y H' yl => .inl ⟨yl.1, by
    have e := yl.2 vs hA
    rw [h1] at e
    cases e
    exact h2⟩⟩
theorem wk_tup {K : PySem.W.Frag} {F : Hp} {a : Addr} {vs : List V} {ds : List D} (h : F a = some (.tup vs)) (d : Dvs K F vs ds) : Wk K F (Itt K a) ds := fun i H s => by
  have hA : SqT K H a vs := SqT.of (s _ _ h)
  refine ⟨fun hi => ⟨vs, hA, by rw [d.len]; exact Nat.le_of_eq hi⟩, fun x hx => ?_⟩
  obtain ⟨v, h1, h2⟩ := d.get hx
  exact ⟨⟨vs, v, hA, h1⟩, fun y H' yl => .inl ⟨yl.1, by
    have e := yl.2 vs hA
    rw [h1] at e
    cases e
    exact h2⟩⟩
theorem sign_ok {x : Str} {c : Nat} {i : Nat} (ok : PyData.strOk x = true) (h : x.cps[i]? = some c) : PyData.strOk ⟨#[c]⟩ = true := by
  have z := Array.all_eq_true_iff_forall_mem.mp (show x.cps.all (· < 0x110000) = true from ok) c (Array.mem_of_getElem? h)
  show #[c].all (· < 0x110000) = true
  simpa using z
theorem sign_dv {K : PySem.W.Frag} {F : Hp} {x : Str} {c : Nat} {i : Nat} (ok : PyData.strOk x = true) (h : x.cps[i]? = some c) : Dv K F (.str ⟨#[c]⟩) (.str [c]) :=
  .str ⟨#[c]⟩ (by show 1 ≤ lim; decide) (sign_ok ok h)
theorem wk_str {K : PySem.W.Frag} {F : Hp} {x : Str} (ok : PyData.strOk x = true) : Wk K F (Its x) (x.cps.toList.map fun c => D.str [c]) := fun i H s => by
  refine ⟨fun hi => by
    show x.cps.size ≤ i
    have := Nat.le_of_eq hi
    simpa using this, fun d hd => ?_⟩
  rw [List.getElem?_map] at hd
  cases ec : x.cps.toList[i]? with
  | none =>
    rw [ec] at hd
    cases hd
  | some c =>
    rw [ec] at hd
    cases hd
    have ec' : x.cps[i]? = some c := by simpa using ec
    refine ⟨(Array.getElem?_eq_some_iff.mp ec').1, fun y H' yl => .inl ⟨yl.1, ?_⟩⟩
    obtain ⟨_, c', e1, e2⟩ := yl
    rw [ec'] at e1
    cases e1
    rw [e2]
    exact sign_dv ok ec'
theorem wk_rng {K : PySem.W.Frag} {F : Hp} {lo : Int} {n : Nat} : Wk K F (Itr lo n) ((List.range n).map fun i => D.int (lo + (i : Nat))) := fun i H s => by
  refine ⟨fun hi => by
    show n ≤ i
    have := Nat.le_of_eq hi
    simpa using this, fun d hd => ?_⟩
  rw [List.getElem?_map] at hd
  by_cases hi : i < n
  · rw [List.getElem?_range hi] at hd
    cases hd
    exact ⟨hi, fun y H' yl => .inl ⟨yl.1, by rw [yl.2]; exact .int _⟩⟩
  · rw [List.getElem?_eq_none (by simpa using hi)] at hd
    cases hd
theorem di_l (h : DE T cv X E iter fa) : DI T cv X E tg iter (iL fa) := by
  obtain ⟨t, p, q⟩ := h
  refine ⟨_, pi_list p, fun B r σ F H R rep h => ?_⟩
  refine q B r σ F H _ rep (Po.bind h fun d r1 F1 H1 v er s1 rep1 dv h1 => ?_)
  cases dv with
  | lst hF dvs => exact ⟨_, rfl, ⟨_, SqL.of (rep1.ext.sub _ _ hF)⟩, h1 F1 H1 _ (Same.refl _) rep1 (wk_list hF dvs)⟩
  | _ => exact h1.elim
theorem di_t (h : DE T cv X E iter fa) : DI T cv X E tg iter (iT fa) := by
  obtain ⟨t, p, q⟩ := h
  refine ⟨_, pi_tup p, fun B r σ F H R rep h => ?_⟩
  refine q B r σ F H _ rep (Po.bind h fun d r1 F1 H1 v er s1 rep1 dv h1 => ?_)
  cases dv with
  | tup hF dvs => exact ⟨_, rfl, ⟨_, SqT.of (rep1.ext.sub _ _ hF)⟩, h1 F1 H1 _ (Same.refl _) rep1 (wk_tup hF dvs)⟩
  | _ => exact h1.elim
theorem di_s (h : DE T cv X E iter fa) : DI T cv X E tg iter (iS fa) := by
  obtain ⟨t, p, q⟩ := h
  refine ⟨_, pi_str p, fun B r σ F H R rep h => ?_⟩
  refine q B r σ F H _ rep (Po.bind h fun d r1 F1 H1 v er s1 rep1 dv h1 => ?_)
  cases dv with
  | str x _ ok => exact ⟨_, rfl, h1 F1 H1 _ (Same.refl _) rep1 (wk_str ok)⟩
  | _ => exact h1.elim
theorem di_r1 {p : Pos} (hg : Gl X "range") (hm : X.mg "range" = none) (ha : DA T cv X E [a] fs) (hs : starEach [a] X.env = [(false, eval a X.env)] := by rfl) : DI T cv X E tg (.Call (.Name "range" p) [a] [] pos) (iRange1 fs) := by
  obtain ⟨t, pp, q⟩ := ha
  refine ⟨_, pi_range1 hg hm pp hs, fun B r σ F H R rep h => ?_⟩
  refine q B r σ F H _ rep (Po.bind h fun ds r1 F1 H1 vs er s1 rep1 dvs h1 => ?_)
  split at h1
  · rename_i n
    split at h1
    · rename_i hn
      cases dvs with
      | cons d1 dr =>
        cases dr
        cases d1
        refine ⟨n, rfl, by omega, by omega, h1 F1 H1 _ (Same.refl _) rep1 ?_⟩
        have e : (fun i : Nat => D.int (i : Nat)) = fun i : Nat => D.int (0 + (i : Nat)) := by
          funext i
          rw [Int.zero_add]
        rw [e]
        exact wk_rng
    · exact h1.elim
  · exact h1.elim
theorem di_r2 {p : Pos} (hg : Gl X "range") (hm : X.mg "range" = none) (ha : DA T cv X E [a, b] fs) (hs : starEach [a, b] X.env = [(false, eval a X.env), (false, eval b X.env)] := by rfl) (hs2 : starEach [b] X.env = [(false, eval b X.env)] := by rfl) : DI T cv X E tg (.Call (.Name "range" p) [a, b] [] pos) (iRange2 fs) := by
  obtain ⟨t, pp, q⟩ := ha
  refine ⟨_, pi_range2 hg hm pp hs hs2, fun B r σ F H R rep h => ?_⟩
  refine q B r σ F H _ rep (Po.bind h fun ds r1 F1 H1 vs er s1 rep1 dvs h1 => ?_)
  split at h1
  · rename_i n m
    split at h1
    · rename_i hn
      cases dvs with
      | cons d1 dr =>
        cases dr with
        | cons d2 dr =>
          cases dr
          cases d1
          cases d2
          exact ⟨n, m, rfl, by omega, h1 F1 H1 _ (Same.refl _) rep1 wk_rng⟩
    · exact h1.elim
  · exact h1.elim
end
/-! ### defs -/
section
variable {P : Program} {w : World} {K : PySem.W.Frag} {mg : Str → Option Value} {base : Heap} {T : List (Addr × Str)} {cv : Nat → Value}
theorem Fun.okN {x qual : Str} {st : Stmt} {f : Addr} {fd : FuncData} {N ps : List Str} {k : Nat} {sp : Sp} (F : Fun K x qual st f fd) (S : FnScope N ps (defScope st)) (len : ∀ vs H Q E, sp vs H Q E → vs.length = ps.length)
    (hbody : ∀ (cdv : Value) (A : Around) (outer : List Env) (s : Shared) (H : Hp) (vs : List V) (Q : VK) (E : XK), Room k (A.deeper (envOfC qual (defScope st) s.heap.objs.size f cdv)) → sp vs H Q E →
      ∃ t, PSs (cxOf (L2N.CX P w) P w K mg base N qual (defScope st) f cdv A outer s H E) (defBody st) t ∧ t { nx := fun _ H' => Q .non H', rt := Q } (L2.start N vs) H) : FnOk P w K mg base (L2N.CX P w) (k + 1) f fd ps sp := by
  obtain ⟨oc, od, kV, doc, pm, an, cdv, ct, osl, rfl, lk, hcd⟩ := F.ex
  exact fn_of lk hcd S len fun A outer s H vs Q E hr hsp => hbody cdv A outer s H vs Q E hr hsp
theorem start_rep {F H : Hp} {N : List Str} {vs : List V} {ds : List D} (s : Same F H) (t : LamX.Tabs T H ∧ NT F) (d : Dvs K F vs ds) (hl : vs.length ≤ N.length) : Rep T K ⟨fun _ => False, F, H⟩ (startE N.length ds) (L2.start N vs) F H := by
  have hd := d.len
  have noO : ∀ (i : Nat) s, (startE N.length ds)[i]? = some s → (∃ e, s = .dat e ∧ ds[i]? = some e) ∨ s = .un := fun i s e => by
    unfold startE at e
    by_cases hi : i < ds.length
    · rw [List.getElem?_append_left (by simpa using hi), List.getElem?_map, List.getElem?_eq_getElem hi] at e
      have e := Option.some.inj e
      exact .inl ⟨_, e.symm, List.getElem?_eq_getElem hi⟩
    · rw [List.getElem?_append_right (by simpa using hi), List.getElem?_replicate] at e
      split at e
      · exact .inr (Option.some.inj e).symm
      · cases e
  refine ⟨Ext.refl s t.1 t.2 fun b z => z.elim, ?_, fun i e h => ?_, fun i xs h => ?_, fun i xs h => ?_, fun i j p h1 h2 => ?_⟩
  · unfold startE L2.start
    rw [List.length_append, List.length_append, List.length_map, List.length_map, List.length_replicate, List.length_replicate, hd]
  · rcases noO i _ h with ⟨e', h1, h2⟩ | h1
    · cases h1
      obtain ⟨v, g1, g2⟩ := d.get h2
      refine ⟨v, ?_, g2⟩
      unfold L2.start
      have hi := (List.getElem?_eq_some_iff.mp g1).1
      rw [List.getElem?_append_left (by simpa using hi), List.getElem?_map, g1]
      rfl
    · cases h1
  · rcases noO i _ h with ⟨e', h1, h2⟩ | h1 <;> cases h1
  · rcases noO i _ h with ⟨e', h1, h2⟩ | h1 <;> cases h1
  · cases e : (startE N.length ds)[i]? with
    | none =>
      rw [e] at h1
      cases h1
    | some s =>
      rcases noO i _ e with ⟨e', h3, h4⟩ | h3 <;> rw [e, h3] at h1 <;> cases h1
/-- THE RULE for a def: its body by the judgements -/
theorem fn_d {x : Str} {st : Stmt} {f : Addr} {fd : FuncData} {N ps : List Str} {k n : Nat} {b : M Fl} (F : Fun K x x st f fd) (hm : mg x = some (.ref f)) (bi : Binds K fd ps []) (S : FnScope N ps (defScope st)) (hn : ps.length = n) (hN : ps.length ≤ N.length)
    (hb : ∀ (cdv : Value) (A : Around) (outer : List Env) (s : Shared) (H : Hp) (E : XK), Room k (A.deeper (envOfC x (defScope st) s.heap.objs.size f cdv)) →
      DSs T cv (cxOf (L2N.CX P w) P w K mg base N x (defScope st) f cdv A outer s H E) E (defBody st) b) : Has P w K mg base T cv (k + 1) x n (runD n N.length b) := by
  refine ⟨f, fd, ps, hm, F.kp, bi, ?_⟩
  refine Fun.okN F S (fun vs H Q E h => ?_) (fun cdv A outer s H vs Q E hr h => ?_)
  · obtain ⟨_, _, h1, _⟩ := h
    rw [h1, hn]
  · obtain ⟨Fh, ds, h1, h2, h3, h4, h5⟩ := h
    obtain ⟨t, p, q⟩ := hb cdv A outer s H E hr
    refine ⟨t, p, q ⟨fun _ => False, Fh, H⟩ (startE N.length ds) (L2.start N vs) Fh H _ (start_rep h2 h3 h4 (by omega)) ?_⟩
    unfold runD at h5
    rw [if_pos (by rw [← h4.len]; exact h1)] at h5
    cases er : b (startE N.length ds) with
    | ok fl r =>
      rw [er] at h5
      cases fl with
      | nx => exact fun σ' F' H' s' rep' => h5 F' H' .non rep'.ext .non
      | ret d => exact fun σ' F' H' v s' rep' dv => h5 F' H' v rep'.ext dv
    | exc c r =>
      rw [er] at h5
      exact fun σ' F' H' s' rep' => h5 F' H' rep'.ext
    | bad =>
      rw [er] at h5
      exact h5
theorem fn_o {x : Str} {st : Stmt} {f : Addr} {fd : FuncData} {N ps : List Str} {k n : Nat} {b : M Fl} (F : Fun K x x st f fd) (hm : mg x = some (.ref f)) (bi : Binds K fd ps []) (S : FnScope N ps (defScope st)) (hn : ps.length = n) (hN : ps.length ≤ N.length) (h0 : 0 < ps.length)
    (hb : ∀ (cdv : Value) (A : Around) (outer : List Env) (s : Shared) (H : Hp) (E : XK), Room k (A.deeper (envOfC x (defScope st) s.heap.objs.size f cdv)) →
      DSs T cv (cxOf (L2N.CX P w) P w K mg base N x (defScope st) f cdv A outer s H E) E (defBody st) b) : HasO P w K mg base T cv (k + 1) x n (runO n N.length b) := by
  refine ⟨f, fd, ps, hm, F.kp, bi, ?_⟩
  refine Fun.okN F S (fun vs H Q E h => ?_) (fun cdv A outer s H vs Q E hr h => ?_)
  · obtain ⟨_, _, _, _, _, _, _, h1, _⟩ := h
    rw [h1, hn]
  · obtain ⟨Fh, p0, us, xs, ws, ds, e0, h1, h2, h3, k1, k2, k3, h4, h5⟩ := h
    subst e0
    obtain ⟨t, p, q⟩ := hb cdv A outer s H E hr
    have hlw : ws.length + 1 = n := h1
    have hd := h4.len
    obtain ⟨N0, N1, eN⟩ : ∃ N0 N1, N = N0 :: N1 := by
      cases N with
      | nil =>
        simp only [List.length_nil] at hN
        omega
      | cons a b => exact ⟨a, b, rfl⟩
    have eL : N.length - 1 = N1.length := by rw [eN]; rfl
    have rep1 := start_rep (T := T) (N := N1) h2 h3 h4 (by rw [eN, List.length_cons] at hN; omega)
    have eS : L2.start N (.ref p0 :: ws) = some (.ref p0) :: L2.start N1 ws := by
      unfold L2.start
      rw [eN]
      simp
    have rep : Rep T K ⟨fun b => b = p0, Fh, H⟩ (.bor xs :: startE (N.length - 1) ds) (L2.start N (.ref p0 :: ws)) Fh H := by
      rw [eL, eS]
      refine ⟨Ext.refl h2 h3.1 h3.2 fun b z => by rw [z]; exact ⟨_, k1, not_lst, k2⟩, by rw [List.length_cons, List.length_cons, rep1.len], fun i d h => ?_, fun i ys h => ?_, fun i ys h => ?_, fun i j b e1 e2 => ?_⟩
      · cases i with
        | zero => cases h
        | succ i => exact rep1.dat i d h
      · cases i with
        | zero => cases h
        | succ i =>
          obtain ⟨_, _, _, _, _, _, z⟩ := rep1.own i ys h
          obtain ⟨p', vs', g1, g2, g3, g4, g5⟩ := rep1.own i ys h
          exact (g5.1 _ g2 not_lst).elim
      · cases i with
        | zero =>
          cases h
          exact ⟨p0, us, rfl, k1, k2, k3, rfl⟩
        | succ i =>
          obtain ⟨_, _, _, _, _, _, z⟩ := rep1.bor i ys h
          exact z.elim
      · cases i with
        | zero =>
          cases j with
          | zero => exact fun _ _ => rfl
          | succ j =>
            cases ej : (startE N1.length ds)[j]? with
            | none =>
              have e2 : notOwn (startE N1.length ds)[j]? = false := e2
              rw [ej] at e2
              cases e2
            | some s =>
              have e2 : notOwn (startE N1.length ds)[j]? = false := e2
              cases s with
              | own zs =>
                obtain ⟨p', vs', g1, g2, g3, g4, g5⟩ := rep1.own j zs ej
                exact (g5.1 _ g2 not_lst).elim
              | bor zs =>
                obtain ⟨_, _, _, _, _, _, z⟩ := rep1.bor j zs ej
                exact z.elim
              | _ =>
                rw [ej] at e2
                cases e2
        | succ i =>
          have e1 : notOwn (startE N1.length ds)[i]? = false := e1
          cases ej : (startE N1.length ds)[i]? with
          | none =>
            rw [ej] at e1
            cases e1
          | some s =>
            cases s with
            | own zs =>
              obtain ⟨p', vs', g1, g2, g3, g4, g5⟩ := rep1.own i zs ej
              exact (g5.1 _ g2 not_lst).elim
            | bor zs =>
              obtain ⟨_, _, _, _, _, _, z⟩ := rep1.bor i zs ej
              exact z.elim
            | _ =>
              rw [ej] at e1
              cases e1
    refine ⟨t, p, q ⟨fun b => b = p0, Fh, H⟩ _ _ Fh H _ rep ?_⟩
    unfold runO at h5
    rw [if_pos (by rw [← hd]; exact hlw)] at h5
    -- where the list stands at the end
    have fin : ∀ {r : En} {ys : List D} {σ' : St} {F' H' : Hp}, Rep T K ⟨fun b => b = p0, Fh, H⟩ r σ' F' H' → r[0]? = some (.bor ys) → ∃ us', H' p0 = some (.lst us') ∧ Dvs K F' us' ys := fun {r ys σ' F' H'} rep' e => by
      obtain ⟨p', us', g1, g2, g3, g4, g5⟩ := rep'.bor 0 ys e
      have g5 : p' = p0 := g5
      subst g5
      exact ⟨us', g2, g4⟩
    cases er : b (.bor xs :: startE (N.length - 1) ds) with
    | ok fl r =>
      rw [er] at h5
      unfold finO at h5
      dsimp only at h5
      split at h5
      · rename_i ys e0
        cases fl with
        | nx =>
          exact fun σ' F' H' s' rep' => by
            obtain ⟨us', g1, g2⟩ := fin rep' e0
            exact h5 F' H' .non us' rep'.ext g1 g2 .non
        | ret d =>
          exact fun σ' F' H' v s' rep' dv => by
            obtain ⟨us', g1, g2⟩ := fin rep' e0
            exact h5 F' H' v us' rep'.ext g1 g2 dv
      · exact h5.elim
    | exc c r =>
      rw [er] at h5
      unfold finO at h5
      dsimp only at h5
      split at h5
      · rename_i ys e0
        exact fun σ' F' H' s' rep' => by
          obtain ⟨us', g1, g2⟩ := fin rep' e0
          exact h5 F' H' us' rep'.ext g1 g2
      · exact h5.elim
    | bad =>
      rw [er] at h5
      exact h5.elim
end
end FB
/-! Comprehensions. -/
namespace FB
open PySem PySem.Spec L2
section
variable {T : List (Addr × Str)} {cv : Nat → Value} {K : PySem.W.Frag} {B : Bs} {r : En} {σ : St} {F F1 H H1 F' H' : Hp} {E : XK}
theorem Rep.addr (h : Rep T K B r σ F H) {j : Nat} (n : notOwn r[j]? = false) : ∃ p us, σ[j]? = some (some (.ref p)) ∧ H p = some (.lst us) ∧ F p = none := by
  cases e : r[j]? with
  | none =>
    rw [e] at n
    cases n
  | some s =>
    cases s with
    | own xs =>
      obtain ⟨p, us, h1, h2, h3, _⟩ := h.own j xs e
      exact ⟨p, us, h1, h2, h3⟩
    | bor xs =>
      obtain ⟨p, us, h1, h2, h3, _⟩ := h.bor j xs e
      exact ⟨p, us, h1, h2, h3⟩
    | _ =>
      rw [e] at n
      cases n
def Off (r : En) (σ : St) (b : Addr) : Prop := ∀ j : Nat, notOwn r[j]? = false → σ[j]? ≠ some (some (.ref b))
/-- a new base at the state as it stands: what stands there besides the slots' own lists is kept -/
theorem Rep.rebase (h : Rep T K B r σ F H) : ∃ B', Rep T K B' r σ F H ∧ (∀ r' σ' F' H', Rep T K B' r' σ' F' H' → Rep T K B r' σ' F' H' ∧ Same F F') ∧
    ∀ b o, H b = some o → NoT o → Off r σ b → ∀ r' σ' F' H', Rep T K B' r' σ' F' H' → H' b = some o ∧ (F b = none → F' b = none) ∧ Off r' σ' b := by
  obtain ⟨HB, hb1, hb2⟩ : ∃ HB : Hp, (∀ b, (∃ (j : Nat) (xs : List D), r[j]? = some (.own xs) ∧ σ[j]? = some (some (.ref b))) → HB b = none) ∧ ∀ b, ¬ (∃ (j : Nat) (xs : List D), r[j]? = some (.own xs) ∧ σ[j]? = some (some (.ref b))) → HB b = H b := by
    classical
    refine ⟨fun b => if (∃ (j : Nat) (xs : List D), r[j]? = some (.own xs) ∧ σ[j]? = some (some (.ref b))) then none else H b, fun b hb => if_pos hb, fun b hb => if_neg hb⟩
  have hbH : ∀ b o, HB b = some o → H b = some o := fun b o e => by
    by_cases hb : ∃ (j : Nat) (xs : List D), r[j]? = some (.own xs) ∧ σ[j]? = some (some (.ref b))
    · rw [hb1 b hb] at e
      cases e
    · rw [← hb2 b hb]
      exact e
  -- what the old base knows is no list of a slot's own
  have known : ∀ b o, B.H b = some o → NoT o → ¬ ∃ (j : Nat) (xs : List D), r[j]? = some (.own xs) ∧ σ[j]? = some (some (.ref b)) := fun b o e n ⟨j, xs, h1, h2⟩ => by
    obtain ⟨p, us, g1, g2, g3, g4, g5⟩ := h.own j xs h1
    rw [h2] at g1
    cases g1
    exact g5.1 o e n
  have knownO : ∀ b, B.O b → ¬ ∃ (j : Nat) (xs : List D), r[j]? = some (.own xs) ∧ σ[j]? = some (some (.ref b)) := fun b e ⟨j, xs, h1, h2⟩ => by
    obtain ⟨p, us, g1, g2, g3, g4, g5⟩ := h.own j xs h1
    rw [h2] at g1
    cases g1
    exact g5.2 e
  have borO : ∀ b, (∃ (j : Nat) (xs : List D), r[j]? = some (.bor xs) ∧ σ[j]? = some (some (.ref b))) → B.O b := fun b ⟨j, xs, h1, h2⟩ => by
    obtain ⟨p, us, g1, g2, g3, g4, g5⟩ := h.bor j xs h1
    rw [h2] at g1
    cases g1
    exact g5
  refine ⟨⟨fun b => ∃ (j : Nat) (xs : List D), r[j]? = some (.bor xs) ∧ σ[j]? = some (some (.ref b)), F, HB⟩, ?_, fun r' σ' F' H' h' => ?_, fun b o e n off r' σ' F' H' h' => ?_⟩
  · refine ⟨⟨Same.refl _, h.ext.sub, fun b o e _ _ => hbH b o e, fun b o e _ z => z, fun b hb => ?_, h.ext.tb, h.ext.nt⟩, h.len, h.dat, fun i xs e => ?_, fun i xs e => ?_, h.apart⟩
    · obtain ⟨j, xs, h1, h2⟩ := hb
      obtain ⟨p, us, g1, g2, g3, g4, g5⟩ := h.bor j xs h1
      rw [h2] at g1
      cases g1
      exact ⟨_, g2, not_lst, g3⟩
    · obtain ⟨p, us, g1, g2, g3, g4, g5⟩ := h.own i xs e
      refine ⟨p, us, g1, g2, g3, g4, fun o z => ?_, fun ⟨j, ys, z1, z2⟩ => ?_⟩
      · have z : HB p = some o := z
        rw [hb1 p ⟨i, xs, e, g1⟩] at z
        cases z
      · have q := h.apart i j p (by rw [e]; rfl) (by rw [z1]; rfl) g1 z2
        rw [← q, e] at z1
        cases z1
    · obtain ⟨p, us, g1, g2, g3, g4, g5⟩ := h.bor i xs e
      exact ⟨p, us, g1, g2, g3, g4, i, xs, e, g1⟩
  · have e' := h'.ext
    have kept : ∀ b o, H b = some o → NoT o → ¬ (∃ (j : Nat) (xs : List D), r[j]? = some (.own xs) ∧ σ[j]? = some (some (.ref b))) → ¬ (∃ (j : Nat) (xs : List D), r[j]? = some (.bor xs) ∧ σ[j]? = some (some (.ref b))) → H' b = some o := fun b o z n n1 n2 =>
      e'.hh b o (by show HB b = some o; rw [hb2 b n1]; exact z) n n2
    have keptF : ∀ b o, H b = some o → NoT o → ¬ (∃ (j : Nat) (xs : List D), r[j]? = some (.own xs) ∧ σ[j]? = some (some (.ref b))) → F b = none → F' b = none := fun b o z n n1 f =>
      e'.nf b o (by show HB b = some o; rw [hb2 b n1]; exact z) n f
    refine ⟨⟨⟨h.ext.ff.trans e'.ff, e'.sub, fun b o z n no => ?_, fun b o z n f => ?_, fun b hb => ?_, e'.tb, e'.nt⟩, h'.len, h'.dat, fun i xs q => ?_, fun i xs q => ?_, h'.apart⟩, e'.ff⟩
    · exact kept b o (h.ext.hh b o z n no) n (known b o z n) fun q => no (borO b q)
    · have f1 := h.ext.nf b o z n f
      by_cases hO : B.O b
      · obtain ⟨o', g1, g2, g3⟩ := h.ext.ob b hO
        exact keptF b o' g1 g2 (knownO b hO) g3
      · exact keptF b o (h.ext.hh b o z n hO) n (known b o z n) f1
    · by_cases hb' : ∃ (j : Nat) (xs : List D), r[j]? = some (.bor xs) ∧ σ[j]? = some (some (.ref b))
      · exact e'.ob b hb'
      · obtain ⟨o', g1, g2, g3⟩ := h.ext.ob b hb
        exact ⟨o', kept b o' g1 g2 (knownO b hb) hb', g2, keptF b o' g1 g2 (knownO b hb) g3⟩
    · obtain ⟨p, us, g1, g2, g3, g4, g5, g6⟩ := h'.own i xs q
      have nO : ¬ B.O p := fun hO => by
        obtain ⟨o', z1, z2, z3⟩ := h.ext.ob p hO
        exact g5 o' (by show HB p = some o'; rw [hb2 p (knownO p hO)]; exact z1) z2
      refine ⟨p, us, g1, g2, g3, g4, fun o z n => ?_, nO⟩
      exact g5 o (by show HB p = some o; rw [hb2 p (known p o z n)]; exact h.ext.hh p o z n nO) n
    · obtain ⟨p, us, g1, g2, g3, g4, g5⟩ := h'.bor i xs q
      exact ⟨p, us, g1, g2, g3, g4, borO p g5⟩
  · have e' := h'.ext
    have n1 : ¬ (∃ (j : Nat) (xs : List D), r[j]? = some (.own xs) ∧ σ[j]? = some (some (.ref b))) := fun ⟨j, xs, z1, z2⟩ => off j (by rw [z1]; rfl) z2
    have n2 : ¬ (∃ (j : Nat) (xs : List D), r[j]? = some (.bor xs) ∧ σ[j]? = some (some (.ref b))) := fun ⟨j, xs, z1, z2⟩ => off j (by rw [z1]; rfl) z2
    have hB : HB b = some o := by rw [hb2 b n1]; exact e
    refine ⟨e'.hh b o hB n n2, fun f => e'.nf b o hB n f, fun j nj hj => ?_⟩
    cases ej : r'[j]? with
    | none =>
      rw [ej] at nj
      cases nj
    | some s =>
      cases s with
      | own xs =>
        obtain ⟨p, us, g1, g2, g3, g4, g5, g6⟩ := h'.own j xs ej
        rw [hj] at g1
        cases g1
        exact g5 o hB n
      | bor xs =>
        obtain ⟨p, us, g1, g2, g3, g4, g5⟩ := h'.bor j xs ej
        rw [hj] at g1
        cases g1
        exact n2 g5
      | _ =>
        rw [ej] at nj
        cases nj
/-- a list beside the slots is written -/
theorem Rep.side (h : Rep T K B r σ F H) {b : Addr} {us vs : List V} (hb : H b = some (.lst us)) (hf : F b = none) (fr : Fresh B b ∧ ¬ B.O b) (off : Off r σ b) : Rep T K B r σ F (upd H b (.lst vs)) := by
  have e := Ext.write (us := vs) h.ext.sub h.ext.tb h.ext.nt hb hf
  refine ⟨h.ext.comp e fun c hc => by rw [hc]; exact .inr fr.1, h.len, h.dat, fun i xs q => ?_, fun i xs q => ?_, h.apart⟩
  · obtain ⟨p, ws, g1, g2, g3, g4, g5⟩ := h.own i xs q
    have hne : p ≠ b := fun z => off i (by rw [q]; rfl) (by rw [← z]; exact g1)
    exact ⟨p, ws, g1, by rw [upd_ne hne]; exact g2, g3, g4, g5⟩
  · obtain ⟨p, ws, g1, g2, g3, g4, g5⟩ := h.bor i xs q
    have hne : p ≠ b := fun z => off i (by rw [q]; rfl) (by rw [← z]; exact g1)
    exact ⟨p, ws, g1, by rw [upd_ne hne]; exact g2, g3, g4, g5⟩
/-- .. becomes a datum -/
theorem Rep.side_frz (h : Rep T K B r σ F H) {b : Addr} {us : List V} (hb : H b = some (.lst us)) (hf : F b = none) (fr : Fresh B b ∧ ¬ B.O b) (off : Off r σ b) : Rep T K B r σ (upd F b (.lst us)) H := by
  have sF : Same F (upd F b (.lst us)) := same_upd hf
  refine ⟨⟨h.ext.ff.trans sF, fun c o e => ?_, h.ext.hh, fun c o e n z => ?_, fun c hc => ?_, h.ext.tb, h.ext.nt.upd not_lst⟩, h.len, fun i d e => ?_, fun i xs q => ?_, fun i xs q => ?_, h.apart⟩
  · by_cases hc : c = b
    · subst hc
      rw [upd_same] at e
      rw [hb]
      exact e
    · rw [upd_ne hc] at e
      exact h.ext.sub c o e
  · have hc : c ≠ b := fun q => fr.1 o (by rw [← q]; exact e) n
    rw [upd_ne hc]
    exact h.ext.nf c o e n z
  · obtain ⟨o, g1, g2, g3⟩ := h.ext.ob c hc
    have hne : c ≠ b := fun q => fr.2 (by rw [← q]; exact hc)
    exact ⟨o, g1, g2, by rw [upd_ne hne]; exact g3⟩
  · obtain ⟨v, g1, g2⟩ := h.dat i d e
    exact ⟨v, g1, g2.mono sF⟩
  · obtain ⟨p, ws, g1, g2, g3, g4, g5⟩ := h.own i xs q
    have hne : p ≠ b := fun z => off i (by rw [q]; rfl) (by rw [← z]; exact g1)
    exact ⟨p, ws, g1, g2, by rw [upd_ne hne]; exact g3, g4.mono sF, g5⟩
  · obtain ⟨p, ws, g1, g2, g3, g4, g5⟩ := h.bor i xs q
    have hne : p ≠ b := fun z => off i (by rw [q]; rfl) (by rw [← z]; exact g1)
    exact ⟨p, ws, g1, g2, by rw [upd_ne hne]; exact g3, g4.mono sF, g5⟩
/-! ### slots forgotten -/
theorem wipeE_len : ∀ (vs : List Nat) (r : En), (wipeE vs r).length = r.length
  | [], _ => rfl
  | v :: vs, r => by
    show ((wipeE vs r).set v .un).length = _
    rw [List.length_set, wipeE_len vs r]
theorem wipeE_get {s : Sl} (ns : s ≠ .un) : ∀ {vs : List Nat} {r : En} {j : Nat}, (wipeE vs r)[j]? = some s → j ∉ vs ∧ r[j]? = some s
  | [], _, _, h => ⟨by simp, h⟩
  | v :: vs, r, j, h => by
    have h : ((wipeE vs r).set v .un)[j]? = some s := h
    by_cases hj : v = j
    · subst hj
      by_cases hl : v < (wipeE vs r).length
      · rw [List.getElem?_set_self hl] at h
        exact absurd (Option.some.inj h).symm ns
      · rw [List.getElem?_eq_none (by simpa using hl)] at h
        cases h
    · rw [List.getElem?_set_ne hj] at h
      obtain ⟨h1, h2⟩ := wipeE_get ns h
      exact ⟨by simp only [List.mem_cons, not_or]; exact ⟨fun e => hj e.symm, h1⟩, h2⟩
theorem wipe_get {σ : St} : ∀ {vs : List Nat} {j : Nat}, j ∉ vs → (wipe σ vs)[j]? = σ[j]?
  | [], _, _ => rfl
  | v :: vs, j, h => by
    show ((wipe σ vs).set v none)[j]? = σ[j]?
    rw [List.getElem?_set_ne (fun e => h (by rw [e]; exact List.mem_cons_self)), wipe_get fun z => h (List.mem_cons_of_mem _ z)]
theorem wipe_none {σ : St} : ∀ {vs : List Nat} {j : Nat}, j ∈ vs → j < σ.length → (wipe σ vs)[j]? = some none
  | v :: vs, j, h, hl => by
    show ((wipe σ vs).set v none)[j]? = some none
    by_cases hj : v = j
    · subst hj
      rw [List.getElem?_set_self (by rw [wipe_length]; exact hl)]
    · rw [List.getElem?_set_ne hj]
      rcases List.mem_cons.mp h with e | e
      · exact absurd e.symm hj
      · exact wipe_none e hl
theorem wipe_twice (σ : St) (vs : List Nat) : L2.wipe (L2.wipe σ vs) vs = L2.wipe σ vs := by
  refine List.ext_getElem? fun j => ?_
  by_cases hj : j ∈ vs
  · by_cases hl : j < σ.length
    · rw [wipe_none hj hl, wipe_none hj (by rw [wipe_length]; exact hl)]
    · rw [List.getElem?_eq_none (by rw [wipe_length, wipe_length]; omega), List.getElem?_eq_none (by rw [wipe_length]; omega)]
  · rw [wipe_get hj]
theorem notOwn_wipe {vs : List Nat} {r : En} {j : Nat} (h : notOwn (wipeE vs r)[j]? = false) : j ∉ vs ∧ notOwn r[j]? = false := by
  cases e : (wipeE vs r)[j]? with
  | none =>
    rw [e] at h
    cases h
  | some s =>
    cases s with
    | own xs =>
      obtain ⟨h1, h2⟩ := wipeE_get (by intro z; cases z) e
      exact ⟨h1, by rw [h2]; rfl⟩
    | bor xs =>
      obtain ⟨h1, h2⟩ := wipeE_get (by intro z; cases z) e
      exact ⟨h1, by rw [h2]; rfl⟩
    | _ =>
      rw [e] at h
      cases h
theorem Rep.wipe (h : Rep T K B r σ F H) (vs : List Nat) : Rep T K B (wipeE vs r) (L2.wipe σ vs) F H := by
  refine ⟨h.ext, by rw [wipeE_len, wipe_length, h.len], fun i d e => ?_, fun i xs e => ?_, fun i xs e => ?_, fun i j p e1 e2 e3 e4 => ?_⟩
  · obtain ⟨h1, h2⟩ := wipeE_get (by intro z; cases z) e
    obtain ⟨v, g1, g2⟩ := h.dat i d h2
    exact ⟨v, by rw [wipe_get h1]; exact g1, g2⟩
  · obtain ⟨h1, h2⟩ := wipeE_get (by intro z; cases z) e
    obtain ⟨p, us, g1, g2⟩ := h.own i xs h2
    exact ⟨p, us, by rw [wipe_get h1]; exact g1, g2⟩
  · obtain ⟨h1, h2⟩ := wipeE_get (by intro z; cases z) e
    obtain ⟨p, us, g1, g2⟩ := h.bor i xs h2
    exact ⟨p, us, by rw [wipe_get h1]; exact g1, g2⟩
  · obtain ⟨h1, h2⟩ := notOwn_wipe e1
    obtain ⟨h3, h4⟩ := notOwn_wipe e2
    rw [wipe_get h1] at e3
    rw [wipe_get h3] at e4
    exact h.apart i j p h2 h4 e3 e4
theorem Off.wipe {b : Addr} (h : Off r σ b) (vs : List Nat) : Off (wipeE vs r) (L2.wipe σ vs) b := fun j n e => by
  obtain ⟨h1, h2⟩ := notOwn_wipe n
  rw [wipe_get h1] at e
  exact h j h2 e
theorem backE_len : ∀ (vs : List Nat) (r0 r : En), (backE vs r0 r).length = r.length
  | [], _, _ => rfl
  | v :: vs, r0, r => by
    show ((backE vs r0 r).set v _).length = _
    rw [List.length_set, backE_len vs r0 r]
theorem backE_get {r0 : En} : ∀ {vs : List Nat} {r : En} {j : Nat} {s : Sl}, (backE vs r0 r)[j]? = some s → (j ∈ vs ∧ s = r0.getD j .un) ∨ (j ∉ vs ∧ r[j]? = some s)
  | [], _, _, _, h => .inr ⟨by simp, h⟩
  | v :: vs, r, j, s, h => by
    have h : ((backE vs r0 r).set v (r0.getD v .un))[j]? = some s := h
    by_cases hj : v = j
    · subst hj
      by_cases hl : v < (backE vs r0 r).length
      · rw [List.getElem?_set_self hl] at h
        exact .inl ⟨List.mem_cons_self, (Option.some.inj h).symm⟩
      · rw [List.getElem?_eq_none (by simpa using hl)] at h
        cases h
    · rw [List.getElem?_set_ne hj] at h
      rcases backE_get h with ⟨h1, h2⟩ | ⟨h1, h2⟩
      · exact .inl ⟨List.mem_cons_of_mem _ h1, h2⟩
      · exact .inr ⟨by simp only [List.mem_cons, not_or]; exact ⟨fun e => hj e.symm, h1⟩, h2⟩
theorem Rep.back {r0 : En} (h0 : Rep T K B r0 σ F1 H1) (s : Same F1 F) (vs : List Nat) (no : (vs.all fun i => notOwn r0[i]?) = true) (h : Rep T K B r (L2.wipe σ vs) F H) : Rep T K B (backE vs r0 r) σ F H := by
  have dat0 : ∀ (j : Nat) s, j ∈ vs → s = r0.getD j .un → (∃ d, s = .dat d ∧ r0[j]? = some (.dat d)) ∨ s = .un := fun j s hj e => by
    have n := List.all_eq_true.mp no j hj
    rw [List.getD_eq_getElem?_getD] at e
    cases ej : r0[j]? with
    | none =>
      rw [ej] at e
      exact .inr e
    | some u =>
      rw [ej] at e
      have e : s = u := e
      rw [ej] at n
      cases u with
      | dat d => exact .inl ⟨d, e, rfl⟩
      | un => exact .inr e
      | own xs => cases n
      | bor xs => cases n
  have nO : ∀ j : Nat, notOwn (backE vs r0 r)[j]? = false → j ∉ vs ∧ notOwn r[j]? = false := fun j n => by
    cases ej : (backE vs r0 r)[j]? with
    | none =>
      rw [ej] at n
      cases n
    | some s =>
      rcases backE_get ej with ⟨h1, h2⟩ | ⟨h1, h2⟩
      · rcases dat0 j s h1 h2 with ⟨d, e, _⟩ | e <;> rw [ej, e] at n <;> cases n
      · exact ⟨h1, by rw [h2, ← ej]; exact n⟩
  refine ⟨h.ext, ?_, fun i d e => ?_, fun i xs e => ?_, fun i xs e => ?_, fun i j p e1 e2 e3 e4 => ?_⟩
  · rw [backE_len, h.len, wipe_length]
  · rcases backE_get e with ⟨h1, h2⟩ | ⟨h1, h2⟩
    · rcases dat0 i _ h1 h2 with ⟨d', e', g⟩ | e'
      · cases e'
        obtain ⟨v, g1, g2⟩ := h0.dat i d g
        exact ⟨v, g1, g2.mono s⟩
      · cases e'
    · obtain ⟨v, g1, g2⟩ := h.dat i d h2
      exact ⟨v, by rw [← wipe_get h1]; exact g1, g2⟩
  · rcases backE_get e with ⟨h1, h2⟩ | ⟨h1, h2⟩
    · rcases dat0 i _ h1 h2 with ⟨d', e', g⟩ | e' <;> cases e'
    · obtain ⟨p, us, g1, g2⟩ := h.own i xs h2
      exact ⟨p, us, by rw [← wipe_get h1]; exact g1, g2⟩
  · rcases backE_get e with ⟨h1, h2⟩ | ⟨h1, h2⟩
    · rcases dat0 i _ h1 h2 with ⟨d', e', g⟩ | e' <;> cases e'
    · obtain ⟨p, us, g1, g2⟩ := h.bor i xs h2
      exact ⟨p, us, by rw [← wipe_get h1]; exact g1, g2⟩
  · obtain ⟨h1, h2⟩ := nO i e1
    obtain ⟨h3, h4⟩ := nO j e2
    exact h.apart i j p h2 h4 (by rw [wipe_get h1]; exact e3) (by rw [wipe_get h3]; exact e4)
end
/-! ### one reading for all contexts -/
section
variable (T : List (Addr × Str)) (cv : Nat → Value)
def tD (K : PySem.W.Frag) (E : XK) (f : M D) : TE := fun σ H Q => ∃ B r F, Rep T K B r σ F H ∧ PoE T cv K B σ F E Q (f r)
def tDT (K : PySem.W.Frag) (E : XK) (f : M Bool) : TT := fun σ H Q => ∃ B r F, Rep T K B r σ F H ∧ PoT T cv K B σ F E Q (f r)
def gD (K : PySem.W.Frag) (g : Tg) (vs : List Nat) : TG := fun v σ H Q => ∃ B r F d r', Rep T K B r σ F H ∧ Dv K F v d ∧ g d r = some r' ∧ ∀ σ', Rep T K B r' σ' F H → wipe σ' vs = wipe σ vs → Q σ' H
def DTs (X : Cx) (E : XK) (ifs : List Expr) (f : M Bool) : Prop := ∃ t, PTs X ifs t ∧ ∀ B r σ F H Q, Rep T X.K B r σ F H → PoT T cv X.K B σ F E Q (f r) → t σ H Q
end
section
variable {T : List (Addr × Str)} {cv : Nat → Value} {X : Cx} {E : XK} {e a b c tg iter : Expr} {es : List Expr} {pos : Pos} {fa fb fc : M D} {fs fi : M (List D)} {tA : M Bool}
theorem DE.pe (h : DE T cv X E e fa) : PE X e (tD T cv X.K E fa) := by
  obtain ⟨t, p, q⟩ := h
  exact ⟨fun pins s σ H Q I ⟨B, r, F, rep, h⟩ => p.run pins s σ H Q I (q B r σ F H Q rep h)⟩
theorem DTs.pts {ifs : List Expr} (h : DTs T cv X E ifs tA) : PTs X ifs (tDT T cv X.K E tA) := by
  obtain ⟨t, p, q⟩ := h
  exact ⟨fun pins s σ H Q I ⟨B, r, F, rep, h⟩ => p.run pins s σ H Q I (q B r σ F H Q rep h)⟩
theorem DG.pg {g : Tg} {vs : List Nat} (h : DG T X tg g vs) : PG X tg (gD T X.K g vs) := by
  obtain ⟨t, p, q⟩ := h
  exact ⟨fun pins s σ H v u Q I rv ⟨B, r, F, d, r', rep, dv, eg, k⟩ => p.run pins s σ H v u Q I rv (q B r σ F H v d r' Q rep dv eg k)⟩
theorem dts_nil : DTs T cv X E [] tY := ⟨_, pts_nil, fun B r σ F H Q rep h => h F H true (Same.refl _) rep rfl⟩
theorem dts_one (h : DT T cv X E c tA) : DTs T cv X E [c] tA := by
  obtain ⟨t, p, q⟩ := h
  exact ⟨t, pts_one p, q⟩
theorem lcGo_ok {g : Tg} {tt : M Bool} {te : M D} {vs : List Nat} {x : D} {xs acc ys : List D} {r r2 : En} (h : lcGo g tt te vs (x :: xs) acc r = .ok ys r2) :
    ∃ r1 b r3, g x r = some r1 ∧ tt r1 = .ok b r3 ∧ ((b = true ∧ ∃ y r4, te r3 = .ok y r4 ∧ lcGo g tt te vs xs (acc ++ [y]) (wipeE vs r4) = .ok ys r2) ∨ (b = false ∧ lcGo g tt te vs xs acc (wipeE vs r3) = .ok ys r2)) := by
  unfold lcGo at h
  cases e1 : g x r with
  | none =>
    rw [e1] at h
    cases h
  | some r1 =>
    rw [e1] at h
    dsimp only at h
    cases e2 : tt r1 with
    | ok b r3 =>
      rw [e2] at h
      refine ⟨r1, b, r3, rfl, e2, ?_⟩
      cases b with
      | false => exact .inr ⟨rfl, h⟩
      | true =>
        have h : (te r3).andThen (fun y r3 => lcGo g tt te vs xs (acc ++ [y]) (wipeE vs r3)) = .ok ys r2 := h
        cases e3 : te r3 with
        | ok y r4 =>
          rw [e3] at h
          exact .inl ⟨rfl, y, r4, rfl, h⟩
        | exc c r4 =>
          rw [e3] at h
          cases h
        | bad =>
          rw [e3] at h
          cases h
    | exc c r3 =>
      rw [e2] at h
      cases h
    | bad =>
      rw [e2] at h
      cases h
theorem lc_read {K : PySem.W.Frag} {B : Bs} {σ : St} {F1 H1 : Hp} {r1 : En} {J : It} {g : Tg} {tt : M Bool} {te : M D} {vs : List Nat} {xs ys : List D} {r2 : En} {Q : VK} (rep1 : Rep T K B r1 σ F1 H1) (wk : Wk K F1 J xs) (no : (vs.all fun i => notOwn r1[i]?) = true) (hlen : xs.length ≤ lim)
    (run : lcGo g tt te vs xs [] (wipeE vs r1) = .ok ys r2) (q : ∀ F' H' v, Same F1 F' → Rep T K B (backE vs r1 r2) σ F' H' → Dv K F' v (.lst ys) → Q v H') (Dl : Addr) (hD : H1 Dl = none) :
    ∃ W : Nat → Nat → Hp → Prop, (∃ m, W 0 m (upd H1 Dl (.lst []))) ∧ ∀ i m H, W i m H →
      (J.stop i H ∧ Q (.ref Dl) H) ∨ (J.go i H ∧ ∃ Nx : Hp → Prop, (∀ H', Nx H' → ∃ m', m' < m ∧ W (i + 1) m' H') ∧ ∀ x H', J.yld i H x H' → gD T K g vs x (wipe σ vs) H' fun σ2 H2 => wipe σ2 vs = wipe σ vs ∧ tDT T cv K E0 tt σ2 H2 fun b H3 =>
        if b = true then tD T cv K E0 te σ2 H3 fun y H4 => ∃ acc, H4 Dl = some (.lst acc) ∧ acc.length < sizeLine ∧ Nx (upd H4 Dl (.lst (acc ++ [y]))) else Nx H3) := by
  have fr := rep1.ext.fresh_of hD
  have off1 : Off r1 σ Dl := fun j n e => by
    obtain ⟨p, us, g1, g2, _⟩ := rep1.addr n
    rw [e] at g1
    cases g1
    rw [hD] at g2
    cases g2
  refine ⟨fun i m H => m = xs.length - i ∧ i ≤ xs.length ∧ ∃ r F acc accV, Same F1 F ∧ Rep T K B r (wipe σ vs) F H ∧ H Dl = some (.lst accV) ∧ F Dl = none ∧ Dvs K F accV acc ∧ acc.length ≤ i ∧ Off r (wipe σ vs) Dl ∧ lcGo g tt te vs (xs.drop i) acc r = .ok ys r2,
    ⟨xs.length, rfl, Nat.zero_le _, wipeE vs r1, F1, [], [], Same.refl _, (rep1.wipe vs).fresh' hD, upd_same, rep1.free hD, .nil, Nat.zero_le _, off1.wipe vs, run⟩, ?_⟩
  rintro i m H ⟨rfl, hi, r, F, acc, accV, sF, rep, hDl, fDl, dacc, hacc, off, runi⟩
  obtain ⟨stop, go⟩ := wk i H (sF.trans rep.ext.sub)
  by_cases hlt : i < xs.length
  · obtain ⟨hgo, hy⟩ := go xs[i] (List.getElem?_eq_getElem hlt)
    rw [List.drop_eq_getElem_cons hlt] at runi
    obtain ⟨ra, bb, rb, ea, eb, rest⟩ := lcGo_ok runi
    refine .inr ⟨hgo, fun H' => ∃ r F acc accV, Same F1 F ∧ Rep T K B r (wipe σ vs) F H' ∧ H' Dl = some (.lst accV) ∧ F Dl = none ∧ Dvs K F accV acc ∧ acc.length ≤ i + 1 ∧ Off r (wipe σ vs) Dl ∧ lcGo g tt te vs (xs.drop (i + 1)) acc r = .ok ys r2, fun H' w => ⟨xs.length - (i + 1), by omega, rfl, hlt, w⟩, fun x H3 yl => ?_⟩
    -- the item, as a datum at F3
    have item : ∃ F3, Same F F3 ∧ Rep T K B r (wipe σ vs) F3 H3 ∧ Dv K F3 x xs[i] ∧ H3 Dl = some (.lst accV) ∧ F3 Dl = none := by
      rcases hy x H3 yl with ⟨e, dv⟩ | ⟨p0, us, ds, hn, e, ex, ed, dvs⟩
      · subst e
        exact ⟨F, Same.refl _, rep, dv.mono sF, hDl, fDl⟩
      · subst e
        have n0 := rep.free hn
        have hne : Dl ≠ p0 := ne_of_none hDl hn
        refine ⟨upd F p0 (.tup us), same_upd n0, rep.fresh hn not_tup, ?_, by rw [upd_ne hne]; exact hDl, by rw [upd_ne hne]; exact fDl⟩
        rw [ex, ed]
        exact .tup upd_same (dvs.mono (sF.trans (same_upd n0)))
    obtain ⟨F3, sF3, rep3, dv, hDl3, fDl3⟩ := item
    obtain ⟨B', repB, backB, keepB⟩ := rep3.rebase
    have keep := keepB Dl _ hDl3 not_lst off
    refine ⟨B', r, F3, xs[i], ra, repB, dv, ea, fun σ2 rep4 hw => ⟨hw.trans (wipe_twice σ vs), ?_⟩⟩
    have hw := hw.trans (wipe_twice σ vs)
    refine ⟨B', ra, F3, rep4, ?_⟩
    rw [eb]
    intro F5 H5 k s5 rep5 hk
    subst hk
    rcases rest with ⟨rfl, y, rc, ec, run2⟩ | ⟨rfl, run2⟩
    · refine iteT ⟨B', rb, F5, rep5, ?_⟩
      rw [ec]
      intro F6 H6 v s6 rep6 dv6
      obtain ⟨repN, sN⟩ := backB _ _ _ _ rep6
      obtain ⟨k1, k2, k3⟩ := keep _ _ _ _ rep6
      refine ⟨accV, k1, by rw [dacc.len]; exact Nat.lt_of_le_of_lt hacc (Nat.lt_of_lt_of_le hlt (Nat.le_trans hlen (by decide))), ?_⟩
      have repW := repN.wipe vs
      rw [hw] at repW
      have offW := k3.wipe vs
      rw [hw] at offW
      refine ⟨wipeE vs rc, F6, acc ++ [y], accV ++ [v], sF.trans (sF3.trans sN), repW.side k1 (k2 fDl3) fr offW, upd_same, k2 fDl3, (dacc.mono (sF3.trans sN)).append (.cons dv6 .nil), ?_, offW, run2⟩
      rw [List.length_append]
      exact Nat.add_le_add_right hacc 1
    · refine iteF ?_
      obtain ⟨repN, sN⟩ := backB _ _ _ _ rep5
      obtain ⟨k1, k2, k3⟩ := keep _ _ _ _ rep5
      have repW := repN.wipe vs
      rw [hw] at repW
      have offW := k3.wipe vs
      rw [hw] at offW
      exact ⟨wipeE vs rb, F5, acc, accV, sF.trans (sF3.trans sN), repW, k1, k2 fDl3, dacc.mono (sF3.trans sN), Nat.le_succ_of_le hacc, offW, run2⟩
  · have e : i = xs.length := by omega
    subst e
    rw [List.drop_length] at runi
    unfold lcGo at runi
    cases runi
    have z := rep.side_frz hDl fDl fr off
    have sZ : Same F (upd F Dl (.lst accV)) := same_upd fDl
    exact .inl ⟨stop rfl, q _ _ _ (sF.trans sZ) (Rep.back rep1 (sF.trans sZ) vs no z) (.lst upd_same (dacc.mono sZ))⟩
theorem de_lc {elt : Expr} {ifs : List Expr} {scope : Scope} {own : List (Str × Nat)} {g : Tg} {tt : M Bool} {te : M D} (hc : X.calm = true) (hN : X.N.Nodup) (hi : DI T cv X E tg iter fi) (ok : BlkOk X.N X.env.scope scope own)
    (hg : ∀ (s : Shared) (H : Hp) (C : Addr) (cl : List (Str × Addr)) (fp : List Addr), DG T (X.blk s H scope (compEnvC scope cl C X.env) fp) tg g (own.map (·.2)))
    (ht : ∀ (s : Shared) (H : Hp) (C : Addr) (cl : List (Str × Addr)) (fp : List Addr), DTs T cv (X.blk s H scope (compEnvC scope cl C X.env) fp) E0 ifs tt)
    (he : ∀ (s : Shared) (H : Hp) (C : Addr) (cl : List (Str × Addr)) (fp : List Addr), DE T cv (X.blk s H scope (compEnvC scope cl C X.env) fp) E0 elt te) (hs : ∀ x, foldedSetIterable iter X.env x = pure x := by intro _; rfl) :
    DE T cv X E (.ListComp elt [⟨tg, iter, ifs, 0⟩] scope pos) (eLc fi g tt te (own.map (·.2))) := by
  obtain ⟨wi, pi, qi⟩ := hi
  refine ⟨_, pe_lc (g := gD T X.K g (own.map (·.2))) (tt := tDT T cv X.K E0 tt) (te := tD T cv X.K E0 te) hc hN pi ok (fun s H C cl fp => (hg s H C cl fp).pg) (fun s H C cl fp => (ht s H C cl fp).pts) (fun s H C cl fp => (he s H C cl fp).pe) hs, fun B r σ F H Q rep h => ?_⟩
  refine qi B r σ F H _ rep (Po.bind h fun xs r1 F1 H1 J er s1 rep1 wk h1 => ?_)
  intro Dl hD
  split at h1
  · rename_i hcond
    cases run : lcGo g tt te (own.map (·.2)) xs [] (wipeE (own.map (·.2)) r1) with
    | ok ys r2 =>
      rw [run] at h1
      exact lc_read rep1 wk hcond.1 hcond.2 run h1 Dl hD
    | exc c r2 =>
      rw [run] at h1
      exact h1.elim
    | bad =>
      rw [run] at h1
      exact h1.elim
  · exact h1.elim
/-- y = [..] -/
theorem ds_setLc {i : Nat} {y : Str} {py : Pos} {elt : Expr} {ifs : List Expr} {scope : Scope} {own : List (Str × Nat)} {spos : Pos} {g : Tg} {tt : M Bool} {te : M D} (hc : X.calm = true) (hN : X.N.Nodup) (hy : X.N[i]? = some y) (hyl : X.env.scope.names.lookup y = some .local)
    (hsw : swapsWith (.ListComp elt [⟨tg, iter, ifs, 0⟩] scope pos) (some (.Name y py)) spos.line X.env = pure true) (hi : DI T cv X E tg iter fi) (ok : BlkOk X.N X.env.scope scope own)
    (hg : ∀ (s : Shared) (H : Hp) (C : Addr) (cl : List (Str × Addr)) (fp : List Addr), DG T (X.blk s H scope (compEnvC scope cl C X.env) fp) tg g (own.map (·.2)))
    (ht : ∀ (s : Shared) (H : Hp) (C : Addr) (cl : List (Str × Addr)) (fp : List Addr), DTs T cv (X.blk s H scope (compEnvC scope cl C X.env) fp) E0 ifs tt)
    (he : ∀ (s : Shared) (H : Hp) (C : Addr) (cl : List (Str × Addr)) (fp : List Addr), DE T cv (X.blk s H scope (compEnvC scope cl C X.env) fp) E0 elt te) (hs : ∀ x, foldedSetIterable iter X.env x = pure x := by intro _; rfl) :
    DS T cv X E (.Assign [.Name y py] (.ListComp elt [⟨tg, iter, ifs, 0⟩] scope pos) spos) (sSet i (eLc fi g tt te (own.map (·.2)))) := by
  obtain ⟨wi, pi, qi⟩ := hi
  refine ⟨_, ps_setLc (g := gD T X.K g (own.map (·.2))) (tt := tDT T cv X.K E0 tt) (te := tD T cv X.K E0 te) hc hN hy hyl hsw pi ok (fun s H C cl fp => (hg s H C cl fp).pg) (fun s H C cl fp => (ht s H C cl fp).pts) (fun s H C cl fp => (he s H C cl fp).pe) hs, fun B r σ F H D rep h => ?_⟩
  have h' : PoE T cv X.K B σ F E (fun v H1 => D.nx (σ.set i (some v)) H1) (eLc fi g tt te (own.map (·.2)) r) := PoS.bind h fun d r1 F1 H1 v er s1 rep1 dv h1 => h1 _ F1 H1 (Same.refl _) (rep1.set_dat i dv)
  refine qi B r σ F H _ rep (Po.bind h' fun xs r1 F1 H1 J er s1 rep1 wk h1 => ?_)
  intro Dl hD
  split at h1
  · rename_i hcond
    cases run : lcGo g tt te (own.map (·.2)) xs [] (wipeE (own.map (·.2)) r1) with
    | ok ys r2 =>
      rw [run] at h1
      exact lc_read rep1 wk hcond.1 hcond.2 run h1 Dl hD
    | exc c r2 =>
      rw [run] at h1
      exact h1.elim
    | bad =>
      rw [run] at h1
      exact h1.elim
  · exact h1.elim
end
end FB
/-! The operations by their rules. -/
namespace FB
open PySem PySem.Spec L2
theorem OpR.or {X : Cx} {f : Value → Value → Sem Value} {r r' : R2} (h : OpR X f r) (h' : OpR X f r') : OpR X f (fun x y H Q => r x y H Q ∨ r' x y H Q) := fun pins s σ H x y v u Q I a b q =>
  q.elim (h pins s σ H x y v u Q I a b) (h' pins s σ H x y v u Q I a b)
section
variable {T : List (Addr × Str)} {cv : Nat → Value} {K : PySem.W.Frag} {B : Bs} {r : En} {σ : St} {F F1 H H1 F' H' : Hp} {E : XK}
theorem lim_le {n : Nat} (h : n ≤ lim) : n ≤ sizeLine := Nat.le_trans h (by decide)
theorem strOk_app {x y : Str} (hx : PyData.strOk x = true) (hy : PyData.strOk y = true) : PyData.strOk (x ++ y) = true := by
  show (x.cps ++ y.cps).all (· < 0x110000) = true
  rw [Array.all_append]
  exact Bool.and_eq_true_iff.mpr ⟨hx, hy⟩
theorem app_dv {x y : Str} (hx : PyData.strOk x = true) (hy : PyData.strOk y = true) (hl : x.cps.toList.length + y.cps.toList.length ≤ lim) : Dv K F (.str (x ++ y)) (.str (x.cps.toList ++ y.cps.toList)) := by
  have e : x.cps.toList ++ y.cps.toList = (x ++ y).cps.toList := by
    show _ = (x.cps ++ y.cps).toList
    rw [Array.toList_append]
  rw [e]
  refine .str _ ?_ (strOk_app hx hy)
  show (x.cps ++ y.cps).size ≤ lim
  rw [Array.size_append]
  simpa using hl
/-! ### + -/
abbrev rAddA (K : PySem.W.Frag) : R2 := fun x y H Q => (rI0 (fun i j => V.int (i + j))) x y H Q ∨ (∃ i j, x = .str i ∧ y = .str j ∧ i.length + j.length ≤ sizeLine ∧ Q (.str (i ++ j)) H) ∨ rCat x y H Q ∨ rCatA K x y H Q
theorem o_add {X : Cx} : OpR X (binaryOp .Add) (rAddA X.K) := OpR.or op_add (OpR.or op_add_str (OpR.or op_cat op_catA))
theorem Rep.new (h : Rep T K B r σ F H) {p : Addr} {vs : List V} {ds : List D} (hp : H p = none) (d : Dvs K F vs ds) (Q : VK) (q : ∀ F' H' v, Same F F' → Rep T K B r σ F' H' → Dv K F' v (.lst ds) → Q v H') : Q (.ref p) (upd H p (.lst vs)) :=
  q _ _ _ (same_upd (h.free hp)) (h.fresh hp not_lst) (.lst upd_same (d.mono (same_upd (h.free hp))))
theorem Rep.newT (h : Rep T K B r σ F H) {p : Addr} {vs : List V} {ds : List D} (hp : H p = none) (d : Dvs K F vs ds) (Q : VK) (q : ∀ F' H' v, Same F F' → Rep T K B r σ F' H' → Dv K F' v (.tup ds) → Q v H') : Q (.ref p) (upd H p (.tup vs)) :=
  q _ _ _ (same_upd (h.free hp)) (h.fresh hp not_tup) (.tup upd_same (d.mono (same_upd (h.free hp))))
theorem p_add : Op2 T K (rAddA K) opAdd := fun B r σ F H x y d e z Q rep dx dy ez q => by
  cases dx with
  | int i =>
    cases dy with
    | int j =>
      cases ez
      exact .inl ⟨i, j, rfl, rfl, q F H _ (Same.refl _) rep (.int _)⟩
    | _ => cases ez
  | str x h1 h2 =>
    cases dy with
    | str y h3 h4 =>
      simp only [opAdd] at ez
      split at ez
      · rename_i hl
        cases ez
        refine .inr (.inl ⟨x, y, rfl, rfl, ?_, q F H _ (Same.refl _) rep (app_dv h2 h4 hl)⟩)
        show x.cps.size + y.cps.size ≤ sizeLine
        exact lim_le (by simpa using hl)
      · cases ez
    | _ => cases ez
  | lst hF dvs =>
    cases dy with
    | lst hG dws =>
      simp only [opAdd] at ez
      split at ez
      · rename_i hl
        cases ez
        refine .inr (.inr (.inl ⟨_, _, _, _, rfl, rfl, rep.ext.sub _ _ hF, rep.ext.sub _ _ hG, by rw [dvs.len, dws.len]; exact lim_le hl, fun p hp => rep.new hp (dvs.append dws) Q q⟩))
      · cases ez
    | _ => cases ez
  | tup hF dvs =>
    cases dy with
    | tup hG dws =>
      simp only [opAdd] at ez
      split at ez
      · rename_i hl
        cases ez
        refine .inr (.inr (.inr ⟨_, _, _, _, rfl, rfl, SqT.of (rep.ext.sub _ _ hF), SqT.of (rep.ext.sub _ _ hG), by rw [dvs.len, dws.len]; exact lim_le hl, fun e => ?_, fun _ e => ?_, fun _ _ p hp => rep.newT hp (dvs.append dws) Q q⟩))
        · subst e
          cases dvs
          exact q F H _ (Same.refl _) rep (.tup hG dws)
        · subst e
          cases dws
          rw [List.append_nil] at q
          exact q F H _ (Same.refl _) rep (.tup hF dvs)
      · cases ez
    | _ => cases ez
  | _ => cases ez
theorem p_sub : Op2 T K (rI0 fun i j => V.int (i - j)) opSub := fun B r σ F H x y d e z Q rep dx dy ez q => by
  cases dx with
  | int i =>
    cases dy with
    | int j =>
      cases ez
      exact ⟨i, j, rfl, rfl, q F H _ (Same.refl _) rep (.int _)⟩
    | _ => cases ez
  | _ => cases ez
theorem p_fdiv : Op2 T K (rI CDivW fun i j => V.int (i / j)) opFdiv := fun B r σ F H x y d e z Q rep dx dy ez q => by
  cases dx with
  | int i =>
    cases dy with
    | int j =>
      simp only [opFdiv] at ez
      split at ez
      · rename_i hm
        cases ez
        exact ⟨i, j, rfl, rfl, hm, q F H _ (Same.refl _) rep (.int _)⟩
      · cases ez
    | _ => cases ez
  | _ => cases ez
theorem p_mod : Op2 T K (rI (fun _ j => 0 < j) fun i j => V.int (i % j)) opMod := fun B r σ F H x y d e z Q rep dx dy ez q => by
  cases dx with
  | int i =>
    cases dy with
    | int j =>
      simp only [opMod] at ez
      split at ez
      · rename_i hm
        cases ez
        exact ⟨i, j, rfl, rfl, hm, q F H _ (Same.refl _) rep (.int _)⟩
      · cases ez
    | _ => cases ez
  | _ => cases ez
theorem p_pow : Op2 T K (rI CPow fun i j => V.int (i ^ j.toNat)) opPow := fun B r σ F H x y d e z Q rep dx dy ez q => by
  cases dx with
  | int i =>
    cases dy with
    | int j =>
      simp only [opPow] at ez
      split at ez
      · rename_i hm
        cases ez
        refine ⟨i, j, rfl, rfl, ⟨hm.1, hm.2.1, ?_⟩, q F H _ (Same.refl _) rep (.int _)⟩
        have e : (2 : Nat) ^ 64 = 18446744073709551616 := by decide
        rw [e]
        exact hm.2.2
      · cases ez
    | _ => cases ez
  | _ => cases ez
theorem p_neg : Op1 T K (rU fun i => V.int (-i)) opNeg := fun B r σ F H x d z Q rep dx ez q => by
  cases dx with
  | int i =>
    cases ez
    exact ⟨i, rfl, q F H _ (Same.refl _) rep (.int _)⟩
  | _ => cases ez
/-! ### comparisons -/
theorem p_le : Op2 T K (rI0 fun i j => V.bl (decide (i ≤ j))) opLe := fun B r σ F H x y d e z Q rep dx dy ez q => by
  cases dx with
  | int i =>
    cases dy with
    | int j =>
      cases ez
      exact ⟨i, j, rfl, rfl, q F H _ (Same.refl _) rep (.bl _)⟩
    | _ => cases ez
  | _ => cases ez
theorem p_ge : Op2 T K (rI0 fun i j => V.bl (decide (j ≤ i))) opGe := fun B r σ F H x y d e z Q rep dx dy ez q => by
  cases dx with
  | int i =>
    cases dy with
    | int j =>
      cases ez
      exact ⟨i, j, rfl, rfl, q F H _ (Same.refl _) rep (.bl _)⟩
    | _ => cases ez
  | _ => cases ez
theorem py_fz_nil (ns : List Int) : PyData.eqv (D.fz ns).py (D.lst []).py = ns.isEmpty := by
  cases ns with
  | nil => simp [D.py, D.py.go, PyData.eqv, PyData.eqvAll]
  | cons n r => simp [D.py, D.py.go, PyData.eqv, PyData.eqvAll]
theorem depth_ints : ∀ ns : List Int, PyData.depthAll (ns.map PyData.int) = 0
  | [] => by simp [PyData.depthAll]
  | n :: r => by simp [PyData.depthAll, PyData.depth, depth_ints r]
theorem eq_data {d e : D} {b : Bool} {x y : V} (dx : Dv K F x d) (dy : Dv K F y e) (h : pyEq d e = some b) : SeqAt.shaped d.py = true ∧ SeqAt.shaped e.py = true ∧ PyData.eqv d.py e.py = b := by
  have gen : (if d.dep ≤ 60 ∧ e.dep ≤ 60 then some (D.eqv d e) else none) = some b → SeqAt.shaped d.py = true ∧ SeqAt.shaped e.py = true ∧ PyData.eqv d.py e.py = b := fun h => by
    split at h
    · rename_i hd
      exact ⟨dx.shaped hd.1, dy.shaped hd.2, by rw [eqv_py d e hd.1 hd.2]; exact Option.some.inj h⟩
    · cases h
  unfold pyEq at h
  split at h
  · rename_i ns
    refine ⟨?_, dy.shaped (by simp [D.dep, D.depL]), by rw [py_fz_nil]; exact Option.some.inj h⟩
    unfold SeqAt.shaped
    rw [dx.lay, Bool.true_and]
    have e : (D.fz ns).py.depth = 1 := by
      simp [D.py, PyData.depth, depth_ints]
    rw [e]
    decide
  · exact gen h
theorem p_eq : Op2 T K (rEqD K) opEq := fun B r σ F H x y d e z Q rep dx dy ez q => by
  unfold opEq at ez
  cases eb : pyEq d e with
  | none =>
    rw [eb] at ez
    cases ez
  | some b =>
    rw [eb] at ez
    cases ez
    obtain ⟨h1, h2, h3⟩ := eq_data dx dy eb
    refine ⟨d.py, e.py, dx.dp rep.ext.sub, dy.dp rep.ext.sub, h1, h2, ?_⟩
    rw [h3]
    exact q F H _ (Same.refl _) rep (.bl _)
theorem p_ne : Op2 T K (rNeD K) opNe := fun B r σ F H x y d e z Q rep dx dy ez q => by
  unfold opNe at ez
  cases eb : pyEq d e with
  | none =>
    rw [eb] at ez
    cases ez
  | some b =>
    rw [eb] at ez
    cases ez
    obtain ⟨h1, h2, h3⟩ := eq_data dx dy eb
    refine ⟨d.py, e.py, dx.dp rep.ext.sub, dy.dp rep.ext.sub, h1, h2, ?_⟩
    rw [h3]
    exact q F H _ (Same.refl _) rep (.bl _)
/-- c in s, c one sign -/
theorem p_inS : Op2 T K (fun x y H Q => ∃ (c : Nat) (z : Str), x = .str ⟨#[c]⟩ ∧ y = .str z ∧ Q (.bl (decide (c ∈ z.cps.toList))) H) opInS := fun B r σ F H x y d e z Q rep dx dy ez q => by
  cases dx with
  | str x h1 h2 =>
    cases dy with
    | str y h3 h4 =>
      unfold opInS at ez
      split at ez
      · rename_i c s e1 e2
        cases ez
        have e1 := D.str.inj e1
        have e2 := D.str.inj e2
        have ex : x = ⟨#[c]⟩ := by
          obtain ⟨a⟩ := x
          have e3 : a.toList = [c] := e1
          have : a = #[c] := by
            rw [← Array.toArray_toList (xs := a), e3]
          rw [this]
        refine ⟨c, y, by rw [ex], rfl, ?_⟩
        rw [e2]
        exact q F H _ (Same.refl _) rep (.bl _)
      · cases ez
    | _ => unfold opInS at ez; split at ez <;> simp_all
  | _ => unfold opInS at ez; split at ez <;> simp_all
/-! ### in -/
abbrev rInA (K : PySem.W.Frag) : R2 := fun x y H Q => rInD K x y H Q ∨ ∃ d ds, Dp K H x d ∧ Dp K H y (.tuple ds) ∧ SeqAt.shaped d = true ∧ SeqAt.shaped (.tuple ds) = true ∧ Q (.bl (ds.any fun z => PyData.eqv z d)) H
abbrev rNotInA (K : PySem.W.Frag) : R2 := fun x y H Q => rNotInD K x y H Q ∨ ∃ d ds, Dp K H x d ∧ Dp K H y (.tuple ds) ∧ SeqAt.shaped d = true ∧ SeqAt.shaped (.tuple ds) = true ∧ Q (.bl (!ds.any fun z => PyData.eqv z d)) H
theorem op_inDT {X : Cx} (hu : X.A.units + 65 < cLine) : OpR X (compareOp .In) (fun x y H Q => ∃ d ds, Dp X.K H x d ∧ Dp X.K H y (.tuple ds) ∧ SeqAt.shaped d = true ∧ SeqAt.shaped (.tuple ds) = true ∧ Q (.bl (ds.any fun z => PyData.eqv z d)) H) := by
  intro pins s σ H x y v u Q I rx ry h
  obtain ⟨d, ds, hd, he, sd, se, q⟩ := h
  obtain ⟨as, r1⟩ := Dp.reads I d x v hd rx
  obtain ⟨bs, r2⟩ := Dp.reads I (.tuple ds) y u he ry
  exact SeqAt.in_tuple_reads r2 r1 (SeqAt.canLay_of_shaped se) (SeqAt.canLay_of_shaped sd) (by have := SeqAt.depth_of_shaped sd; have := Nat.min_le_right (PyData.depthAll ds) d.depth; omega) ⟨.bl _, H, I, rfl, q⟩
theorem op_notInDT {X : Cx} (hu : X.A.units + 65 < cLine) : OpR X (compareOp .NotIn) (fun x y H Q => ∃ d ds, Dp X.K H x d ∧ Dp X.K H y (.tuple ds) ∧ SeqAt.shaped d = true ∧ SeqAt.shaped (.tuple ds) = true ∧ Q (.bl (!ds.any fun z => PyData.eqv z d)) H) := by
  intro pins s σ H x y v u Q I rx ry h
  obtain ⟨d, ds, hd, he, sd, se, q⟩ := h
  obtain ⟨as, r1⟩ := Dp.reads I d x v hd rx
  obtain ⟨bs, r2⟩ := Dp.reads I (.tuple ds) y u he ry
  exact SeqAt.notIn_tuple_reads r2 r1 (SeqAt.canLay_of_shaped se) (SeqAt.canLay_of_shaped sd) (by have := SeqAt.depth_of_shaped sd; have := Nat.min_le_right (PyData.depthAll ds) d.depth; omega) ⟨.bl _, H, I, rfl, q⟩
theorem units65 {A : Around} {k : Nat} (h : Room k A) : A.units + 65 < cLine := by
  have := h.un
  omega
theorem o_in {X : Cx} {k : Nat} (hr : Room k X.A) : OpR X (compareOp .In) (rInA X.K) := OpR.or (op_inD (units65 hr)) (op_inDT (units65 hr))
theorem o_notIn {X : Cx} {k : Nat} (hr : Room k X.A) : OpR X (compareOp .NotIn) (rNotInA X.K) := OpR.or (op_notInD (units65 hr)) (op_notInDT (units65 hr))
theorem any_py (d : D) (hd : d.dep ≤ 60) : ∀ (xs : List D), D.depL xs ≤ 60 → ((D.py.go xs).any fun z => PyData.eqv z d.py) = xs.any fun z => D.eqv z d
  | [], _ => rfl
  | x :: xs, h => by
    have h1 : max (D.dep x) (D.depL xs) ≤ 60 := by simpa only [D.depL] using h
    show (PyData.eqv x.py d.py || (D.py.go xs).any fun z => PyData.eqv z d.py) = (D.eqv x d || xs.any fun z => D.eqv z d)
    rw [eqv_py x d (by omega) hd, any_py d hd xs (by omega)]
theorem in_data {d e : D} {b : Bool} {x y : V} (dx : Dv K F x d) (dy : Dv K F y e) (h : inB d e = some b) : SeqAt.shaped d.py = true ∧ SeqAt.shaped e.py = true ∧ ((∃ xs, e = .lst xs ∧ ((D.py.go xs).any fun z => PyData.eqv z d.py) = b) ∨ ∃ xs, e = .tup xs ∧ ((D.py.go xs).any fun z => PyData.eqv z d.py) = b) := by
  cases e with
  | lst xs =>
    simp only [inB] at h
    split at h
    · rename_i hd
      have h2 : D.depL xs ≤ 60 := by
        have := hd.2
        simp only [D.dep] at this
        omega
      exact ⟨dx.shaped hd.1, dy.shaped hd.2, .inl ⟨xs, rfl, by rw [any_py d hd.1 xs h2]; exact Option.some.inj h⟩⟩
    · cases h
  | tup xs =>
    simp only [inB] at h
    split at h
    · rename_i hd
      have h2 : D.depL xs ≤ 60 := by
        have := hd.2
        simp only [D.dep] at this
        omega
      exact ⟨dx.shaped hd.1, dy.shaped hd.2, .inr ⟨xs, rfl, by rw [any_py d hd.1 xs h2]; exact Option.some.inj h⟩⟩
    · cases h
  | _ => cases h
theorem p_in : Op2 T K (rInA K) opIn := fun B r σ F H x y d e z Q rep dx dy ez q => by
  unfold opIn at ez
  cases eb : inB d e with
  | none =>
    rw [eb] at ez
    cases ez
  | some b =>
    rw [eb] at ez
    cases ez
    obtain ⟨h1, h2, h3⟩ := in_data dx dy eb
    have q1 := q F H _ (Same.refl _) rep (.bl b)
    rcases h3 with ⟨xs, rfl, h3⟩ | ⟨xs, rfl, h3⟩
    · refine .inl ⟨d.py, _, dx.dp rep.ext.sub, dy.dp rep.ext.sub, h1, h2, ?_⟩
      rw [h3]
      exact q1
    · refine .inr ⟨d.py, _, dx.dp rep.ext.sub, dy.dp rep.ext.sub, h1, h2, ?_⟩
      rw [h3]
      exact q1
theorem p_notIn : Op2 T K (rNotInA K) opNotIn := fun B r σ F H x y d e z Q rep dx dy ez q => by
  unfold opNotIn at ez
  cases eb : inB d e with
  | none =>
    rw [eb] at ez
    cases ez
  | some b =>
    rw [eb] at ez
    cases ez
    obtain ⟨h1, h2, h3⟩ := in_data dx dy eb
    have q1 := q F H _ (Same.refl _) rep (.bl (!b))
    rcases h3 with ⟨xs, rfl, h3⟩ | ⟨xs, rfl, h3⟩
    · refine .inl ⟨d.py, _, dx.dp rep.ext.sub, dy.dp rep.ext.sub, h1, h2, ?_⟩
      rw [h3]
      exact q1
    · refine .inr ⟨d.py, _, dx.dp rep.ext.sub, dy.dp rep.ext.sub, h1, h2, ?_⟩
      rw [h3]
      exact q1
/-! ### places -/
theorem at_list {α : Type} {xs : List α} {j : Int} {z : α} (e : atD xs j = some z) : atI xs j = some z := by
  unfold atD at e
  unfold atI ixN
  split at e
  · rename_i h0
    have hlt := (List.getElem?_eq_some_iff.mp e).1
    rw [if_pos h0, if_pos (by omega)]
    exact e
  · rename_i h0
    split at e
    · rename_i h1
      rw [if_neg h0, if_pos (by omega)]
      exact e
    · cases e
theorem at_mem {α : Type} {xs : List α} {j : Int} {z : α} (e : atD xs j = some z) : ∃ i : Nat, xs[i]? = some z := by
  unfold atD at e
  split at e
  · exact ⟨_, e⟩
  · split at e
    · exact ⟨_, e⟩
    · cases e
theorem at_map {α β : Type} {f : α → β} {xs : List α} {j : Int} {z : α} (e : atD xs j = some z) : atI (xs.map f) j = some (f z) := by
  have h := at_list e
  unfold atI at h ⊢
  rw [List.length_map]
  cases hi : ixN xs.length j with
  | none =>
    rw [hi] at h
    cases h
  | some i =>
    rw [hi] at h
    show (xs.map f)[i]? = some (f z)
    rw [List.getElem?_map]
    have h : xs[i]? = some z := h
    rw [h]
    rfl
theorem p_ix : Op2 T K (rIx K) opIx := fun B r σ F H x y d e z Q rep dx dy ez q => by
  cases dy with
  | int i =>
    cases dx with
    | lst hF dvs =>
      obtain ⟨v, h1, h2⟩ := at_get dvs ez
      exact .inl ⟨_, _, i, v, rfl, rfl, SqL.of (rep.ext.sub _ _ hF), h1, q F H _ (Same.refl _) rep h2⟩
    | tup hF dvs =>
      obtain ⟨v, h1, h2⟩ := at_get dvs ez
      exact .inr (.inl ⟨_, _, i, v, rfl, rfl, SqT.of (rep.ext.sub _ _ hF), h1, q F H _ (Same.refl _) rep h2⟩)
    | str x h1 h2 =>
      simp only [opIx] at ez
      cases ec : atD x.cps.toList i with
      | none =>
        rw [ec] at ez
        cases ez
      | some c =>
        rw [ec] at ez
        cases ez
        obtain ⟨j, hj⟩ := at_mem ec
        exact .inr (.inr ⟨x, i, c, rfl, rfl, lim_le h1, at_list ec, q F H _ (Same.refl _) rep (sign_dv h2 (i := j) (by simpa using hj))⟩)
    | fz hF =>
      rename_i ns
      simp only [opIx] at ez
      cases ec : atD ns i with
      | none =>
        rw [ec] at ez
        cases ez
      | some c =>
        rw [ec] at ez
        cases ez
        exact .inl ⟨_, _, i, .int c, rfl, rfl, rep.ext.sub.seq hF, at_map ec, q F H _ (Same.refl _) rep (.int c)⟩
    | _ => cases ez
  | _ => cases dx <;> cases ez
/-! ### built-ins -/
theorem CallR.or' {X : Cx} {f : Value} {r r' : List V → Hp → VK → Prop} (h : CallR X f r) (h' : CallR X f r') : CallR X f (fun x H Q => r x H Q ∨ r' x H Q) := fun pins s σ H x u Q I a q =>
  q.elim (h pins s σ H x u Q I a) (h' pins s σ H x u Q I a)
abbrev rLenA (K : PySem.W.Frag) : List V → Hp → VK → Prop := fun x H Q => (∃ p ys, x = [.ref p] ∧ (SqL K H p ys ∨ SqT K H p ys) ∧ Q (.int ys.length) H) ∨ ∃ z, x = [.str z] ∧ z.length ≤ sizeLine ∧ Q (.int z.length) H
theorem o_len {X : Cx} : CallR X (.builtin "len") (rLenA X.K) := CallR.or' call_len_seq call_len_str
theorem p_len : OpN T K (rLenA K) bLen := fun B r σ F H xs ds z Q rep dx ez q => by
  cases dx with
  | nil => cases ez
  | cons d1 dr =>
    cases dr with
    | cons _ _ => cases d1 <;> cases ez
    | nil =>
      cases d1 with
      | str x h1 h2 =>
        cases ez
        refine .inr ⟨x, rfl, lim_le h1, ?_⟩
        have e : ((x.cps.toList.length : Nat) : Int) = (x.length : Int) := by simp [Str.length]
        rw [e] at q
        exact q F H _ (Same.refl _) rep (.int _)
      | lst hF dvs =>
        cases ez
        refine .inl ⟨_, _, rfl, .inl (SqL.of (rep.ext.sub _ _ hF)), ?_⟩
        rw [dvs.len]
        exact q F H _ (Same.refl _) rep (.int _)
      | tup hF dvs =>
        cases ez
        refine .inl ⟨_, _, rfl, .inr (SqT.of (rep.ext.sub _ _ hF)), ?_⟩
        rw [dvs.len]
        exact q F H _ (Same.refl _) rep (.int _)
      | fz hF =>
        cases ez
        refine .inl ⟨_, _, rfl, .inl (rep.ext.sub.seq hF), ?_⟩
        rw [List.length_map]
        exact q F H _ (Same.refl _) rep (.int _)
      | _ => cases ez
theorem p_tuple : OpN T K (fun xs H Q => ∃ p ys, xs = [.ref p] ∧ ((SqL K H p ys ∧ ∀ l, H l = none → Q (.ref l) (upd H l (.tup ys))) ∨ (SqT K H p ys ∧ Q (.ref p) H))) bTuple := fun B r σ F H xs ds z Q rep dx ez q => by
  cases dx with
  | nil => cases ez
  | cons d1 dr =>
    cases dr with
    | cons _ _ => cases d1 <;> cases ez
    | nil =>
      cases d1 with
      | lst hF dvs =>
        cases ez
        exact ⟨_, _, rfl, .inl ⟨SqL.of (rep.ext.sub _ _ hF), fun p hp => rep.newT hp dvs Q q⟩⟩
      | tup hF dvs =>
        cases ez
        exact ⟨_, _, rfl, .inr ⟨SqT.of (rep.ext.sub _ _ hF), q F H _ (Same.refl _) rep (.tup hF dvs)⟩⟩
      | _ => cases ez
theorem p_max : OpN T K (fun xs H Q => ∃ i j, xs = [.int i, .int j] ∧ Q (.int (if j > i then j else i)) H) bMax := fun B r σ F H xs ds z Q rep dx ez q => by
  unfold bMax at ez
  split at ez
  · cases ez
    cases dx with
    | cons d1 dr =>
      cases dr with
      | cons d2 dr =>
        cases dr
        cases d1
        cases d2
        exact ⟨_, _, rfl, q F H _ (Same.refl _) rep (.int _)⟩
  · cases ez
theorem p_min : OpN T K (fun xs H Q => ∃ i j, xs = [.int i, .int j] ∧ Q (.int (if j < i then j else i)) H) bMin := fun B r σ F H xs ds z Q rep dx ez q => by
  unfold bMin at ez
  split at ez
  · cases ez
    cases dx with
    | cons d1 dr =>
      cases dr with
      | cons d2 dr =>
        cases dr
        cases d1
        cases d2
        exact ⟨_, _, rfl, q F H _ (Same.refl _) rep (.int _)⟩
  · cases ez
theorem Dvs.bls : ∀ {vs : List V} {ds : List D} {bs : List Bool}, Dvs K F vs ds → FB.bls ds = some bs → vs = bs.map V.bl
  | _, _, _, .nil, h => by
    cases h
    rfl
  | _, _, bs, .cons d t, h => by
    cases d with
    | bl b =>
      unfold FB.bls at h
      cases e : FB.bls _ with
      | none =>
        rw [e] at h
        cases h
      | some cs =>
        rw [e] at h
        cases h
        rw [List.map_cons, ← t.bls e]
    | _ => cases h
theorem p_all : OpN T K (rAll K) bAll := fun B r σ F H xs ds z Q rep dx ez q => by
  unfold bAll at ez
  split at ez
  · rename_i ys
    cases dx with
    | cons d1 dr =>
      cases dr
      cases d1 with
      | lst hF dvs =>
        cases e : FB.bls ys with
        | none =>
          rw [e] at ez
          cases ez
        | some bs =>
          rw [e] at ez
          cases ez
          exact ⟨_, bs, rfl, by rw [← dvs.bls e]; exact SqL.of (rep.ext.sub _ _ hF), q F H _ (Same.refl _) rep (.bl _)⟩
  · cases ez
/-! ### isinstance -/
def tyN : Nat → String
  | 0 => "int"
  | 1 => "bool"
  | 2 => "str"
  | _ => "tuple"
theorem kit4 : ∀ t, t < 4 → kitB "NoneType" (tyN t) = some false ∧ kitB "bool" (tyN t) = some (t == 0 || t == 1) ∧ kitB "int" (tyN t) = some (t == 0) ∧ kitB "str" (tyN t) = some (t == 2) ∧ kitB "tuple" (tyN t) = some (t == 3) ∧ kitB "list" (tyN t) = some false
  | 0, _ => by decide +kernel
  | 1, _ => by decide +kernel
  | 2, _ => by decide +kernel
  | 3, _ => by decide +kernel
  | _ + 4, h => absurd h (by omega)
end
section
variable {T : List (Addr × Str)} {cv : Nat → Value} {X : Cx} {E : XK} {e a b c tg iter : Expr} {es : List Expr} {pos : Pos} {fa fb fc : M D} {fs fi : M (List D)} {tA : M Bool}
theorem de_isi {t : Nat} {x : Str} {p px : Pos} (ht : t < 4) (hg : Gl X "isinstance") (hm : X.mg "isinstance" = none) (hgx : Gl X x) (hmx : X.mg x = none) (hx : bootBuiltins x = some (.type (tyN t))) (ha : DE T cv X E a fa) (hn : x ≠ "__name__" := by decide) (hd : (x == ("__debug__" : Str)) = false := by decide)
    (he : starEach [a, .Name x px] X.env = (false, eval a X.env) :: starEach [.Name x px] X.env := by rfl) (he2 : starEach [.Name x px] X.env = (false, eval (.Name x px) X.env) :: starEach [] X.env := by rfl) (hpl : (backTo pos (starEach [.Name x px] X.env)).any (·.1) = false := by rfl) :
    DE T cv X E (.Call (.Name "isinstance" p) [a, .Name x px] [] pos) (e1 (isTy t) fa) := by
  obtain ⟨ta, pa, qa⟩ := ha
  refine ⟨_, pe_callB call_isi hg hm PyProof.Rows.boot_isinstance (pa_cons pa (pa_cons (pe_bltn (v := .ty (tyN t)) hgx hmx hx rfl hn hd) pa_nil he2) he) (by decide) (by decide) he hpl, fun B r σ F H Q rep h => ?_⟩
  refine qa B r σ F H _ rep (Po.bind h fun d r1 F1 H1 v er s1 rep1 dv h1 => ?_)
  obtain ⟨z, ez, q⟩ := h1.lift
  obtain ⟨k0, k1, k2, k3, k4, k5⟩ := kit4 t ht
  have fin : ∀ (ty : Value) (bb : Bool), TyX X.K H1 v ty → PySem.W.kitOne X.K ty (.type (tyN t)) = some bb → z = .bl bb → rIsi X.K [v, .ty (tyN t)] H1 Q := fun ty bb h1 h2 h3 => by
    subst h3
    exact ⟨v, .ty (tyN t), ty, .type (tyN t), bb, rfl, .ty _, h1, h2, q F1 H1 _ (Same.refl _) rep1 (.bl bb)⟩
  show rIsi X.K [v, .ty (tyN t)] H1 Q
  cases dv with
  | non => exact fin _ _ (.base .non) (kit_ty k0) (Option.some.inj ez).symm
  | bl b => exact fin _ _ (.base (.bl b)) (kit_ty k1) (Option.some.inj ez).symm
  | int i => exact fin _ _ (.base (.int i)) (kit_ty k2) (Option.some.inj ez).symm
  | str x _ _ => exact fin _ _ (.base (.str x)) (kit_ty k3) (Option.some.inj ez).symm
  | tup hF _ => exact fin _ _ (.base (.tup (rep1.ext.sub _ _ hF))) (kit_ty k4) (Option.some.inj ez).symm
  | lst hF _ => exact fin _ _ (.base (.lst (rep1.ext.sub _ _ hF))) (kit_ty k5) (Option.some.inj ez).symm
  | fz _ => cases ez
/-! ### sep.join -/
theorem Dvs.strsD {K : PySem.W.Frag} {F : Hp} : ∀ {vs : List V} {ds : List D} {ss : List (List Nat)}, Dvs K F vs ds → FB.strsD ds = some ss → ∃ xs : List Str, vs = xs.map V.str ∧ xs.map (fun x => x.cps.toList) = ss ∧ ∀ x ∈ xs, PyData.strOk x = true
  | _, _, _, .nil, h => by
    cases h
    exact ⟨[], rfl, rfl, fun _ z => nomatch z⟩
  | _, _, bs, .cons d t, h => by
    cases d with
    | str x h1 h2 =>
      unfold FB.strsD at h
      cases e : FB.strsD _ with
      | none =>
        rw [e] at h
        cases h
      | some cs =>
        rw [e] at h
        cases h
        obtain ⟨xs, g1, g2, g3⟩ := t.strsD e
        exact ⟨x :: xs, by rw [List.map_cons, ← g1], by rw [List.map_cons, g2], fun y hy => by
          rcases List.mem_cons.mp hy with z | z
          · rw [z]
            exact h2
          · exact g3 y z⟩
    | _ => cases h
theorem join_toList (a : Str) : ∀ ys : List Str, (Str.join a ys).cps.toList = joinL a.cps.toList (ys.map fun x => x.cps.toList)
  | [] => rfl
  | [x] => rfl
  | x :: y :: r => by
    show ((x.cps ++ a.cps) ++ (Str.join a (y :: r)).cps).toList = x.cps.toList ++ a.cps.toList ++ joinL a.cps.toList ((y :: r).map fun x => x.cps.toList)
    rw [Array.toList_append, Array.toList_append, join_toList a (y :: r)]
theorem join_ok {a : Str} (ha : PyData.strOk a = true) : ∀ ys : List Str, (∀ x ∈ ys, PyData.strOk x = true) → PyData.strOk (Str.join a ys) = true
  | [], _ => by
    show (#[] : Array Nat).all (· < 0x110000) = true
    simp
  | [x], h => h x List.mem_cons_self
  | x :: y :: r, h => strOk_app (strOk_app (h x List.mem_cons_self) ha) (join_ok ha (y :: r) fun z hz => h z (List.mem_cons_of_mem _ hz))
theorem join_size (a : List Nat) : ∀ ys : List (List Nat), (ys.map List.length).sum ≤ (joinL a ys).length
  | [] => Nat.le_refl _
  | [x] => by simp [joinL]
  | x :: y :: r => by
    have ih := join_size a (y :: r)
    show x.length + ((y :: r).map List.length).sum ≤ (x ++ a ++ joinL a (y :: r)).length
    rw [List.length_append, List.length_append]
    omega
theorem de_join {x : Str} {s : List Nat} {j : Nat} {cp apos : Pos} (hx : Tx x s) (ha : DE T cv X E a fa) (hs10 : s.length ≤ 10 := by decide)
    (h : ∀ {ta : TE}, PE X a ta → PE X (.Call (.Attribute (.Constant (.str x) j cp) "join" apos) [a] [] pos) (tM1 (fun x xs H Q => ∃ a p, ∃ ys : List Str, x = .str a ∧ xs = [.ref p] ∧ (SqL X.K H p (ys.map V.str) ∨ SqT X.K H p (ys.map V.str)) ∧ (ys.map (·.length)).sum + ys.length * a.length ≤ 16777216 ∧ Q (.str (Txt.join a ys)) H) (tC (.str x)) ta) := by intro ta p; exact pe_join pe_str p) :
    DE T cv X E (.Call (.Attribute (.Constant (.str x) j cp) "join" apos) [a] [] pos) (e1 (mJoin (.str s)) fa) := by
  obtain ⟨ta, pa, qa⟩ := ha
  refine ⟨_, h pa, fun B r σ F H Q rep h => ?_⟩
  refine ⟨⟨x, rfl⟩, ?_⟩
  refine qa B r σ F H _ rep (Po.bind h fun d r1 F1 H1 v er s1 rep1 dv h1 => ?_)
  obtain ⟨z, ez, q⟩ := h1.lift
  have fin : ∀ (ds : List D) (vs : List V) (p : Addr), v = .ref p → Dvs X.K F1 vs ds → (SqL X.K H1 p vs ∨ SqT X.K H1 p vs) → (FB.strsD ds).bind (fun ss => if (joinL s ss).length ≤ lim ∧ ss.length ≤ lim ∧ s.length ≤ 10 then some (D.str (joinL s ss)) else none) = some z →
      ∃ a p, ∃ ys : List Str, V.str x = .str a ∧ [v] = [V.ref p] ∧ (SqL X.K H1 p (ys.map V.str) ∨ SqT X.K H1 p (ys.map V.str)) ∧ (ys.map (·.length)).sum + ys.length * a.length ≤ 16777216 ∧ Q (.str (Txt.join a ys)) H1 := fun ds vs p ev dvs hq ez => by
    cases e : FB.strsD ds with
    | none =>
      rw [e] at ez
      cases ez
    | some ss =>
      rw [e] at ez
      have ez : (if (joinL s ss).length ≤ lim ∧ ss.length ≤ lim ∧ s.length ≤ 10 then some (D.str (joinL s ss)) else none) = some z := ez
      split at ez
      · rename_i hl
        cases ez
        obtain ⟨ys, g1, g2, g3⟩ := dvs.strsD e
        subst g1
        have ej : (Txt.join x ys).cps.toList = joinL s ss := by
          rw [TL.join_eq, join_toList, g2, hx.eq]
        refine ⟨x, p, ys, rfl, by rw [ev], hq, ?_, q F1 H1 _ (Same.refl _) rep1 ?_⟩
        · have e1 := join_size s ss
          have e2 : (ys.map (·.length)).sum = (ss.map List.length).sum := by
            rw [← g2, List.map_map]
            congr 1
          have e3 : ys.length = ss.length := by rw [← g2, List.length_map]
          have e4 : x.length = s.length := by
            rw [← hx.eq]
            simp [Str.length]
          rw [e2, e3, e4]
          have l1 : (joinL s ss).length ≤ 100000 := hl.1
          have l2 : ss.length ≤ 100000 := hl.2.1
          have l3 : ss.length * s.length ≤ 100000 * 10 := Nat.mul_le_mul l2 hl.2.2
          omega
        · rw [← ej]
          refine .str _ ?_ ?_
          · have : (Txt.join x ys).cps.toList.length ≤ lim := by
              rw [ej]
              exact hl.1
            simpa using this
          · rw [TL.join_eq]
            exact join_ok hx.ok ys g3
      · cases ez
  cases dv with
  | lst hF dvs => exact fin _ _ _ rfl dvs (.inl (SqL.of (rep1.ext.sub _ _ hF))) ez
  | tup hF dvs => exact fin _ _ _ rfl dvs (.inr (SqT.of (rep1.ext.sub _ _ hF))) ez
  | _ => cases ez
end
end FB
/-! enumerate of a tuple, of a text, of a list. -/
namespace FB
open PySem PySem.Spec L2
theorem enum_new1 {v : Value} {o : Obj} {Hs : Heap → Prop} (Bg : Begins v o Hs) :
    Meets (Builtin.«enumerate.__new__» ⟨[.type "enumerate", v], []⟩) (fun _ R s => Hs s.heap ∧
      R (.ok (.ret (.ref (s.heap.push o).objs.size))) { s with heap := (s.heap.push o).push { cls := .type "enumerate", data := .fields #[.none, .bool false, .ref s.heap.objs.size, rawInt 0, .none, .none] } }) :=
  .of_wp fun prog w A R s hyp => by
    obtain ⟨hp0, g0, d0, tk0, os0⟩ := s
    obtain ⟨hs, fin⟩ := hyp
    have isSub := sub_enumerate
    have go : ∀ {A' : Around} {E' : Value → Shared → Prop} {Q' : Value → Shared → Prop}, Q' (.ref hp0.objs.size) ⟨hp0.push o, g0, d0, tk0, os0⟩ → wpAny (model prog w) A' (pyIter v) Q' E' ⟨hp0, g0, d0, tk0, os0⟩ :=
      fun z => Bg.iter prog w _ _ ⟨hp0, g0, d0, tk0, os0⟩ _ hs z
    wp_walk using go
    refine wpAny_stack_any fun stk => wpAny_pure ?_
    split
    · rename_i cc _ _ _ _ _
      cases (cc == Value.type "enumerate")
      · wp_walk using go
        exact ⟨_, rfl, fin⟩
      · wp_walk using go
        exact ⟨_, rfl, fin⟩
    · wp_walk using go
      exact ⟨_, rfl, fin⟩
theorem call_enum1 {prog : Program} {w : World} {A : Around} {E : Value → Shared → Prop} {s : Shared} {v : Value} {o : Obj} {Hs : Heap → Prop} {Q : Value → Shared → Prop} (Bg : Begins v o Hs) (hs : Hs s.heap)
    (k : ∀ h', IsEnum h' (s.heap.objs.size + 1) s.heap.objs.size 0 .none → h'.get? s.heap.objs.size = some o → (∀ b u, s.heap.get? b = some u → h'.get? b = some u) → Q (.ref (s.heap.objs.size + 1)) { s with heap := h' }) :
    wpAny (model prog w) A (call (.type "enumerate") [v]) Q E s := by
  refine callType_new F.called_enumerate (by decide) (F.typeCall_enumerate_1 _) (F.newCall_enumerate_1 _) (fun obj => F.args_object_init_2 obj _) F.entry_enumerate_new (enum_new1 Bg) ⟨hs, ?_⟩
  have sz : (s.heap.push o).objs.size = s.heap.objs.size + 1 := Heap.size_push ..
  show _ ∧ _
  rw [sz]
  have isE : IsEnum ((s.heap.push o).push { cls := .type "enumerate", data := .fields #[.none, .bool false, .ref s.heap.objs.size, rawInt 0, .none, .none] }) (s.heap.objs.size + 1) s.heap.objs.size 0 .none := by
    have z := Heap.get?_push_size (s.heap.push o) (o := { cls := .type "enumerate", data := .fields #[.none, .bool false, .ref s.heap.objs.size, rawInt 0, .none, .none] }) rfl
    rw [sz] at z
    exact z
  exact ⟨⟨_, isE, rfl⟩, k _ isE (Heap.get?_push_of_some _ (Heap.get?_push_size _ Bg.free)) fun b u x => Heap.get?_push_of_some _ (Heap.get?_push_of_some _ x)⟩
/-- a source of items: sg tells which value comes at turn i, over the abstract heap; st the source's iterator -/
structure Src (P : Program) (w : World) (K : PySem.W.Frag) (it : Addr) (sg sy : Nat → Hp → V → Prop) (se : Nat → Hp → Prop) (st : Nat → Heap → Prop) : Prop where
  obj : ∀ i h, st i h → ∃ o, h.get? it = some o ∧ ∀ v, o.data ≠ .cell v
  keep : ∀ i h h', st i h → (∀ o, h.get? it = some o → h'.get? it = some o) → st i h'
  draw : ∀ (X : Cx), X.prog = P → X.w = w → X.K = K → X.calm = true → ∀ (i : Nat) (pins : List (Addr × Obj)) (s : Shared) (σ : St) (H : Hp), Inv X pins σ H s → H it = none → st i s.heap →
    ((∃ v, sg i H v) → ∃ (fp : List Addr) (n : Nat) (Pd : Nat → Value → Prop) (S : Nat → Heap → Prop), Draws P w X.A.in1 it fp n Pd S ∧ S i s.heap ∧ i < n ∧ (∀ b ∈ fp, b = it ∨ ∃ o, s.heap.get? b = some o ∧ ((∃ u, H b = some u) ∨ ∃ u, K.lookup b = some u)) ∧ (∀ u, Pd i u → ∃ v, RelV v u ∧ sy i H v) ∧ ∀ h, S (i + 1) h → st (i + 1) h) ∧
    (se i H → ∃ (fp : List Addr) (n : Nat) (Pd : Nat → Value → Prop) (S : Nat → Heap → Prop), Draws P w X.A.in1 it fp n Pd S ∧ S n s.heap)
def Ien (sg sy : Nat → Hp → V → Prop) (se : Nat → Hp → Prop) : It :=
  ⟨fun i H => ∃ v, sg i H v, fun i H y H' => ∃ p v, y = .ref p ∧ H p = none ∧ H' = upd H p (.tup [.int (i : Nat), v]) ∧ sy i H v, se⟩
theorem turn_en {P : Program} {w : World} {K : PySem.W.Frag} {elts : List Expr} {kk : Nat} {tp : Pos} {it en : Addr} {sg sy : Nat → Hp → V → Prop} {se : Nat → Hp → Prop} {st : Nat → Heap → Prop} (S : Src P w K it sg sy se st) (nei : en ≠ it) :
    Turn P w K (.Tuple elts kk tp) (Ien sg sy se) [en, it] en (fun i h => (∃ old, IsEnum h en it ((i : Nat) : Int) old) ∧ st i h) where
  mem := List.mem_cons_self
  obj := fun i h z b hb => by
    obtain ⟨⟨old, isE⟩, hst⟩ := z
    rcases List.mem_cons.mp hb with e | e
    · rw [e]
      exact ⟨_, isE, fun v q => nomatch q⟩
    · rw [List.mem_singleton.mp e]
      exact S.obj i h hst
  keep := fun i h h' z k => by
    obtain ⟨⟨old, isE⟩, hst⟩ := z
    exact ⟨⟨old, k en List.mem_cons_self _ isE⟩, S.keep i h h' hst fun o q => k it (List.mem_cons_of_mem _ List.mem_cons_self) o q⟩
  item := by
    intro X hP hw hK hc i pins s σ H E I hf z hg
    obtain ⟨⟨old, isE⟩, hst⟩ := z
    have fi := hf it (List.mem_cons_of_mem _ List.mem_cons_self)
    have fe := hf en List.mem_cons_self
    obtain ⟨fp, n, Pd, Sd, Dr, s0, lt, out, vals, nxt⟩ := (S.draw X hP hw hK hc i pins s σ H I fi.1 hst).1 hg
    have enf : en ∉ fp := fun q => by
      rcases out en q with e | ⟨o, ho, ⟨u, hu⟩ | ⟨u, hu⟩⟩
      · exact nei e
      · rw [fe.1] at hu
        cases hu
      · have q1 := I.kIn en u (by rw [hK]; exact hu)
        -- what the module wrote is older than the def's entry: it is no iterator of ours
        have b1 := I.ok.mod.kin en u (by rw [hK]; exact hu)
        rcases fe.2.2.2.1 with q2 | q2
        · exact I.ok.noex en u b1 q2
        · exact absurd (Nat.lt_of_lt_of_le (Heap.lt_size b1) (Nat.le_trans I.ok.bsz q2)) (Nat.lt_irrefl _)
    subst hP hw hK
    have ltE : en < s.heap.objs.size := Heap.lt_size isE
    have ltI : it < s.heap.objs.size := by
      obtain ⟨o, q, _⟩ := S.obj i _ hst
      exact Heap.lt_size q
    refine wpAny_pyNext_enum_itemD Dr isE s0 lt nei enf fun x h' tk px isO s1 isT _ kp => ?_
    obtain ⟨v, rv, sv⟩ := vals x px
    refine ⟨_, rfl, wpAny_letOwnedTupleGo_enum (s := { s with heap := h', toks := tk + 1 }) isO fun h2 isE2 sb => ?_⟩
    have isT2 : h2.get? s.heap.objs.size = some { cls := .type "tuple", data := .seq #[.int i tk, x] } := (sb.2 _ (Nat.ne_of_gt ltE)).trans isT
    have new : ObjOk X.prog X.w (upd H s.heap.objs.size (.tup [.int (i : Nat), v])) h2 s.heap.objs.size (.tup [.int (i : Nat), v]) := by
      refine ⟨by show 2 ≤ sizeLine; decide, [.int i tk, x], .cons ⟨_, rfl⟩ (.cons rv .nil), ?_⟩
      exact ⟨_, isT2, rfl, _, rfl⟩
    have I1 : Inv X pins σ (upd H s.heap.objs.size (.tup [.int (i : Nat), v])) { s with heap := h2, toks := tk + 1 } := by
      refine I.turnedNew (ch := [en, it]) (fun b ob hb q => ?_) hf (Nat.le_refl _) new
      have n1 : b ≠ en := fun q => hb (by rw [q]; exact List.mem_cons_self)
      have n2 : b ≠ it := fun q => hb (by rw [q]; exact List.mem_cons_of_mem _ List.mem_cons_self)
      exact (sb.2 b n1).trans (kp b ob n1 n2 q)
    refine ⟨.ref s.heap.objs.size, _, I1, rfl, ⟨_, v, rfl, I.hok.fresh (Nat.le_refl _), rfl, sv⟩, ⟨⟨x, ?_⟩, ?_⟩, fun b hb => ?_⟩
    · have e1 : ((i + 1 : Nat) : Int) = (i : Int) + 1 := by omega
      rw [e1]
      exact isE2
    · exact S.keep _ _ _ (nxt _ s1) fun o q => (sb.2 it (Ne.symm nei)).trans q
    · have lb : b < s.heap.objs.size := by
        rcases List.mem_cons.mp hb with e | e
        · rw [e]
          exact ltE
        · rw [List.mem_singleton.mp e]
          exact ltI
      rw [upd_ne (Nat.ne_of_lt lb)]
      exact (hf b hb).1
  done := by
    intro X hP hw hK hc i pins s σ H E I hf z hg
    obtain ⟨⟨old, isE⟩, hst⟩ := z
    obtain ⟨f0, f1, f2, f3, f4, f5⟩ := hf it (List.mem_cons_of_mem _ List.mem_cons_self)
    obtain ⟨fp, n, Pd, Sd, Dr, s0⟩ := (S.draw X hP hw hK hc i pins s σ H I f0 hst).2 hg
    subst hP hw hK
    exact wpAny_pyNext_enum_endD Dr isE s0 fun h' eb => ⟨rfl, I.turned (t' := s.toks) (fun b o hb q => eb b o hb q) f0 f1 f3 f4 f5⟩
  self := fun A i s Q E z h => let ⟨⟨_, isE⟩, _⟩ := z; wpAny_pyIter_enum isE h
/-! ### a tuple, a text -/
theorem src_tup {P : Program} {w : World} {K : PySem.W.Frag} (a it : Addr) : Src P w K it (fun i H v => (∃ xs, SqT K H a xs ∧ xs[i]? = some v)) (fun i H v => ∀ xs, SqT K H a xs → xs[i]? = some v) (fun i H => ∃ xs, SqT K H a xs ∧ xs.length = i) (fun i h => h.IsTupleIter it a i) where
  obj := fun i h z => by
    obtain ⟨o, e, c, d⟩ := z
    exact ⟨o, e, fun v q => by rw [d] at q; cases q⟩
  keep := fun i h h' z k => z.at fun o e => k o e
  draw := fun X hP hw hK hc i pins s σ H I hn z => by
    have hne : ∀ {xs : List V}, SqT X.K H a xs → a ≠ it := fun {xs} hq e => by
      subst e
      rcases hq with (hq | ⟨o, hq⟩) | ⟨o, its, n, hk, hcl, hdt, _⟩
      · rw [hn] at hq
        cases hq
      · rw [hn] at hq
        cases hq
      · obtain ⟨o2, e2, c2, d2⟩ := z
        rw [I.kIn a o hk] at e2
        cases e2
        rw [hdt] at d2
        cases d2
    subst hP hw hK
    refine ⟨fun ⟨v, xs, hq, hx⟩ => ?_, fun ⟨xs, hq, hx⟩ => ?_⟩
    · obtain ⟨its, rv, isT, hz⟩ := I.tuple hq
      obtain ⟨u, hu, ru⟩ := rv.get hx
      have isT : s.heap.IsTuple a its.toArray := isT
      refine ⟨_, _, _, _, Draws.tuple (prog := X.prog) (w := X.w) (A := X.A.in1) (show X.A.in1.handled = none from I.ok.hd hc) it a (hne hq) its.toArray, ⟨z, isT⟩, ?_, fun b hb => ?_, fun u' hu' => ?_, fun h hh => hh.1⟩
      · have := (List.getElem?_eq_some_iff.mp hu).1
        simpa using this
      · rcases List.mem_cons.mp hb with e | e
        · exact .inl e
        · rw [List.mem_singleton.mp e]
          obtain ⟨o, ho, _⟩ := isT
          refine .inr ⟨o, ho, ?_⟩
          rcases hq with (hq | ⟨o, hq⟩) | ⟨o, its, n, hk, _⟩
          · exact .inl ⟨_, hq⟩
          · exact .inl ⟨_, hq⟩
          · exact .inr ⟨_, hk⟩
      · have e : its[i]? = some u' := by simpa using hu'
        rw [hu] at e
        cases e
        exact ⟨v, ru, fun ys hy => by rw [I.tuple_inj hy hq]; exact hx⟩
    · obtain ⟨its, rv, isT, hz⟩ := I.tuple hq
      have hl := rv.length
      refine ⟨_, _, _, _, Draws.tuple (prog := X.prog) (w := X.w) (A := X.A.in1) (show X.A.in1.handled = none from I.ok.hd hc) it a (hne hq) its.toArray, ?_, isT⟩
      have e : its.toArray.size = i := by
        simp
        omega
      rw [e]
      exact z
theorem src_str {P : Program} {w : World} {K : PySem.W.Frag} (x : Str) (t : Tok) (it : Addr) : Src P w K it (fun i H v => ∃ c, x.cps[i]? = some c ∧ v = .str ⟨#[c]⟩) (fun i H v => ∃ c, x.cps[i]? = some c ∧ v = .str ⟨#[c]⟩) (fun i H => x.cps.size = i) (fun i h => h.IsStrIter it (strIterType x) x t i) where
  obj := fun i h z => by
    obtain ⟨o, e, c, d⟩ := z
    exact ⟨o, e, fun v q => by rw [d] at q; cases q⟩
  keep := fun i h h' z k => by
    obtain ⟨o, e, q⟩ := z
    exact ⟨o, k o e, q⟩
  draw := fun X hP hw hK hc i pins s σ H I hn z => by
    subst hP hw hK
    refine ⟨fun ⟨v, c, hcx, _⟩ => ?_, fun hx => ?_⟩
    · refine ⟨_, _, _, _, Draws.text (prog := X.prog) (w := X.w) (A := X.A.in1) (show X.A.in1.handled = none from I.ok.hd hc) it x t, z, (Array.getElem?_eq_some_iff.mp hcx).1, fun b hb => .inl (List.mem_singleton.mp hb), fun u' ⟨c', tk, h1, h2⟩ => ?_, fun h hh => hh⟩
      exact ⟨.str ⟨#[c']⟩, ⟨tk, h2⟩, c', h1, rfl⟩
    · refine ⟨_, _, _, _, Draws.text (prog := X.prog) (w := X.w) (A := X.A.in1) (show X.A.in1.handled = none from I.ok.hd hc) it x t, ?_⟩
      rw [hx]
      exact z
section
variable {T : List (Addr × Str)} {cv : Nat → Value} {X : Cx} {E : XK} {e a b c : Expr} {es elts : List Expr} {pos tp p : Pos} {kk : Nat} {fa fb fc : M D} {fs fi : M (List D)}
def iEnT (K : PySem.W.Frag) (ta : TA) : TI := fun σ H Rr => ta σ H fun vs H1 => (∃ ad xs, vs = [.ref ad] ∧ SqT K H1 ad xs ∧ Rr (Ien (fun i H v => (∃ xs, SqT K H ad xs ∧ xs[i]? = some v)) (fun i H v => ∀ xs, SqT K H ad xs → xs[i]? = some v) (fun i H => ∃ xs, SqT K H ad xs ∧ xs.length = i)) H1)
def iEnS (ta : TA) : TI := fun σ H Rr => ta σ H fun vs H1 => ∃ x, vs = [.str x] ∧ Rr (Ien (fun i _ v => ∃ c, x.cps[i]? = some c ∧ v = .str ⟨#[c]⟩) (fun i _ v => ∃ c, x.cps[i]? = some c ∧ v = .str ⟨#[c]⟩) (fun i _ => x.cps.size = i)) H1
theorem en_two {pins : List (Addr × Obj)} {σ : St} {H : Hp} {s : Shared} (I : Inv X pins σ H s) : ∀ b ∈ [s.heap.objs.size + 1, s.heap.objs.size], FpOk X pins H b := fun b hb => by
  have le : s.heap.objs.size ≤ b := by
    rcases List.mem_cons.mp hb with e | e
    · rw [e]
      exact Nat.le_succ _
    · rw [List.mem_singleton.mp e]
      exact Nat.le_refl _
  exact I.fpOk le (I.hok.fresh le)
theorem pi_enT {ta : TA} (hg : Gl X "enumerate") (hm : X.mg "enumerate" = none) (ha : PA X [e] ta) (hs : starEach [e] X.env = [(false, eval e X.env)] := by rfl) : PI X (.Tuple elts kk tp) (.Call (.Name "enumerate" p) [e] [] pos) (iEnT X.K ta) := by
  refine ⟨fun pins s σ H Rr I h => ?_⟩
  refine PyProof.Rows.Call_ (ld_blt I hg hm PyProof.Rows.boot_enumerate (PyProof.Rows.callWith_type1 (thn (ha.run pos pins s σ H _ I h) fun us s1 ⟨vs, H1, I1, r1, q1⟩ => ?_) hs rfl))
  obtain ⟨ad, xs, ex, hq, q⟩ := q1
  subst ex
  cases r1 with
  | cons r rr =>
    cases rr
    cases r
    obtain ⟨its, rv, isT, hz⟩ := I1.tuple hq
    refine call_enum1 (begins_tuple ad its.toArray) isT fun h' isE g0 hk => wpAny_pyIter_enum isE ?_
    have I2 : Inv X pins σ H1 { s1 with heap := h' } := I1.kept (t' := s1.toks) hk
    have z0 : h'.IsTupleIter s1.heap.objs.size ad 0 := ⟨_, g0, rfl, rfl⟩
    exact ⟨s1.heap.objs.size + 1, [s1.heap.objs.size + 1, s1.heap.objs.size], _, _, H1, rfl, I2, turn_en (src_tup ad s1.heap.objs.size) (Nat.succ_ne_self _), ⟨⟨.none, isE⟩, z0⟩, en_two I1, q⟩
theorem pi_enS {ta : TA} (hg : Gl X "enumerate") (hm : X.mg "enumerate" = none) (ha : PA X [e] ta) (hs : starEach [e] X.env = [(false, eval e X.env)] := by rfl) : PI X (.Tuple elts kk tp) (.Call (.Name "enumerate" p) [e] [] pos) (iEnS ta) := by
  refine ⟨fun pins s σ H Rr I h => ?_⟩
  refine PyProof.Rows.Call_ (ld_blt I hg hm PyProof.Rows.boot_enumerate (PyProof.Rows.callWith_type1 (thn (ha.run pos pins s σ H _ I h) fun us s1 ⟨vs, H1, I1, r1, q1⟩ => ?_) hs rfl))
  obtain ⟨x, ex, q⟩ := q1
  subst ex
  cases r1 with
  | cons r rr =>
    cases rr
    obtain ⟨t, rfl⟩ := r
    refine call_enum1 (begins_text x t) True.intro fun h' isE g0 hk => wpAny_pyIter_enum isE ?_
    have I2 : Inv X pins σ H1 { s1 with heap := h' } := I1.kept (t' := s1.toks) hk
    have z0 : h'.IsStrIter s1.heap.objs.size (strIterType x) x t 0 := ⟨_, g0, rfl, rfl⟩
    exact ⟨s1.heap.objs.size + 1, [s1.heap.objs.size + 1, s1.heap.objs.size], _, _, H1, rfl, I2, turn_en (src_str x t s1.heap.objs.size) (Nat.succ_ne_self _), ⟨⟨.none, isE⟩, z0⟩, en_two I1, q⟩
theorem get_mapIdx {ds : List D} {i : Nat} {d : D} (h : (ds.mapIdx fun i x => D.tup [.int (i : Nat), x])[i]? = some d) : ∃ y, ds[i]? = some y ∧ d = .tup [.int (i : Nat), y] := by
  rw [List.getElem?_mapIdx] at h
  cases e : ds[i]? with
  | none =>
    rw [e] at h
    cases h
  | some y =>
    rw [e] at h
    exact ⟨y, rfl, (Option.some.inj h).symm⟩
theorem wk_enT {K : PySem.W.Frag} {F : Hp} {ad : Addr} {vs : List V} {ds : List D} (h : F ad = some (.tup vs)) (d : Dvs K F vs ds) :
    Wk K F (Ien (fun i H v => (∃ xs, SqT K H ad xs ∧ xs[i]? = some v)) (fun i H v => ∀ xs, SqT K H ad xs → xs[i]? = some v) (fun i H => ∃ xs, SqT K H ad xs ∧ xs.length = i)) (ds.mapIdx fun i x => D.tup [.int (i : Nat), x]) := fun i H s => by
  have hA : SqT K H ad vs := SqT.of (s _ _ h)
  refine ⟨fun hi => ⟨vs, hA, by rw [d.len]; simpa using hi⟩, fun x hx => ?_⟩
  obtain ⟨y, h1, h2⟩ := get_mapIdx hx
  obtain ⟨v, g1, g2⟩ := d.get h1
  refine ⟨⟨v, vs, hA, g1⟩, fun z H' yl => ?_⟩
  obtain ⟨p0, v', e1, e2, e3, hx'⟩ := yl
  have hx' := hx' vs hA
  rw [g1] at hx'
  cases hx'
  exact .inr ⟨p0, _, _, e2, e3, e1, h2, .cons (.int _) (.cons g2 .nil)⟩
theorem wk_enS {K : PySem.W.Frag} {F : Hp} {x : Str} (ok : PyData.strOk x = true) :
    Wk K F (Ien (fun i _ v => ∃ c, x.cps[i]? = some c ∧ v = .str ⟨#[c]⟩) (fun i _ v => ∃ c, x.cps[i]? = some c ∧ v = .str ⟨#[c]⟩) (fun i _ => x.cps.size = i)) ((x.cps.toList.map fun c => D.str [c]).mapIdx fun i x => D.tup [.int (i : Nat), x]) := fun i H s => by
  refine ⟨fun hi => by
    show x.cps.size = i
    simpa using hi, fun d hd => ?_⟩
  obtain ⟨y, h1, h2⟩ := get_mapIdx hd
  rw [List.getElem?_map] at h1
  cases ec : x.cps.toList[i]? with
  | none =>
    rw [ec] at h1
    cases h1
  | some c =>
    rw [ec] at h1
    cases h1
    have ec' : x.cps[i]? = some c := by simpa using ec
    refine ⟨⟨_, c, ec', rfl⟩, fun z H' yl => ?_⟩
    obtain ⟨p0, v', e1, e2, e3, c', g1, g2⟩ := yl
    rw [ec'] at g1
    cases g1
    subst g2
    exact .inr ⟨p0, _, _, e2, e3, e1, h2, .cons (.int _) (.cons (sign_dv ok ec') .nil)⟩
theorem di_enT (hg : Gl X "enumerate") (hm : X.mg "enumerate" = none) (h : DE T cv X E e fa) (hs : starEach [e] X.env = (false, eval e X.env) :: starEach [] X.env := by rfl) : DI T cv X E (.Tuple elts kk tp) (.Call (.Name "enumerate" p) [e] [] pos) (iEnum (iT fa)) := by
  obtain ⟨t, pp, q⟩ := h
  refine ⟨_, pi_enT hg hm (pa_cons pp pa_nil hs) hs, fun B r σ F H R rep h => ?_⟩
  have h : Po T cv (Wk X.K) X.K B σ F E R ((iT fa r).andThen fun xs r1 => .ok (xs.mapIdx fun i x => D.tup [.int (i : Nat), x]) r1) := h
  unfold iT at h
  cases er : fa r with
  | ok d r1 =>
    rw [er] at h
    refine q B r σ F H _ rep ?_
    rw [er]
    intro F1 H1 v s1 rep1 dv
    cases dv with
    | tup hF dvs => exact ⟨_, _, rfl, SqT.of (rep1.ext.sub _ _ hF), h F1 H1 _ s1 rep1 (wk_enT hF dvs)⟩
    | _ => exact h.elim
  | exc c r1 =>
    rw [er] at h
    refine q B r σ F H _ rep ?_
    rw [er]
    exact h
  | bad =>
    rw [er] at h
    exact h.elim
theorem di_enS (hg : Gl X "enumerate") (hm : X.mg "enumerate" = none) (h : DE T cv X E e fa) (hs : starEach [e] X.env = (false, eval e X.env) :: starEach [] X.env := by rfl) : DI T cv X E (.Tuple elts kk tp) (.Call (.Name "enumerate" p) [e] [] pos) (iEnum (iS fa)) := by
  obtain ⟨t, pp, q⟩ := h
  refine ⟨_, pi_enS hg hm (pa_cons pp pa_nil hs) hs, fun B r σ F H R rep h => ?_⟩
  have h : Po T cv (Wk X.K) X.K B σ F E R ((iS fa r).andThen fun xs r1 => .ok (xs.mapIdx fun i x => D.tup [.int (i : Nat), x]) r1) := h
  unfold iS at h
  cases er : fa r with
  | ok d r1 =>
    rw [er] at h
    refine q B r σ F H _ rep ?_
    rw [er]
    intro F1 H1 v s1 rep1 dv
    cases dv with
    | str x _ ok => exact ⟨x, rfl, h F1 H1 _ s1 rep1 (wk_enS ok)⟩
    | _ => exact h.elim
  | exc c r1 =>
    rw [er] at h
    refine q B r σ F H _ rep ?_
    rw [er]
    exact h
  | bad =>
    rw [er] at h
    exact h.elim
end
end FB
/-! Small things for the printed walk. -/
namespace FB
open PySem PySem.Spec L2
/-- an exception class of the program -/
structure ExF (K : PySem.W.Frag) (mg : Str → Option Value) (x : Str) (v : Value) : Prop where
  ex : ∃ C, v = .ref C ∧ mg x = some (.ref C) ∧ PySem.W.excIn K C He.veBase "ValueError.__new__" = true ∧ PySem.W.keepIn K (.ref C) = true ∧ PySem.W.subIn K (.ref C) (.type "BaseException") = some true ∧ PySem.W.typeIn K (.ref C) = some (.type "type")
theorem pm_own {X : Cx} {x m : Str} {v : Value} {j : Nat} {p p2 pos : Pos} (F : ExF X.K X.mg x v) (hg : Gl X x) (hdb : (x == ("__debug__" : Str)) = false := by decide) :
    L2N.PMk X (.Call (.Name x p) [.Constant (.str m) j p2] [] pos) (fun _ H Q => Q v none H) := by
  obtain ⟨C, rfl, g, h1, h2, h3, h4⟩ := F.ex
  exact L2N.pmk_own PySem.F.excBase_ValueError h1 g h2 (raises_own h3 h4) hg hdb
abbrev rIaddA : TIp := fun x y H Q => (∃ i j, x = .int i ∧ y = .int j ∧ Q (.int (i + j)) H) ∨ (∃ i j, x = .str i ∧ y = .str j ∧ i.length + j.length ≤ sizeLine ∧ Q (.str (i ++ j)) H)
theorem o_iadd {X : Cx} : PIp X .Add rIaddA := fun pins s σ H x y v u Q I rx ry h =>
  h.elim (iop_add pins s σ H x y v u Q I rx ry) (iop_add_str pins s σ H x y v u Q I rx ry)
theorem p_iadd {T : List (Addr × Str)} {K : PySem.W.Frag} : Op2 T K rIaddA opIadd := fun B r σ F H x y d e z Q rep dx dy ez q => by
  cases dx with
  | int i =>
    cases dy with
    | int j =>
      cases ez
      exact .inl ⟨i, j, rfl, rfl, q F H _ (Same.refl _) rep (.int _)⟩
    | _ => cases ez
  | str x h1 h2 =>
    cases dy with
    | str y h3 h4 =>
      simp only [opIadd] at ez
      split at ez
      · rename_i hl
        cases ez
        refine .inr ⟨x, y, rfl, rfl, ?_, q F H _ (Same.refl _) rep (app_dv h2 h4 hl)⟩
        show x.cps.size + y.cps.size ≤ sizeLine
        exact lim_le (by simpa using hl)
      · cases ez
    | _ => cases ez
  | _ => cases ez
end FB
/-! Order of data, repeated sequences, slices, the table. -/
namespace FB
open PySem PySem.Spec L2
/-! ### order -/
theorem natsLt_eq : ∀ a b : List Nat, natsLt a b = decide (a < b)
  | [], [] => by simp [natsLt]
  | [], _ :: _ => by simp [natsLt]
  | _ :: _, [] => by simp [natsLt]
  | a :: x, b :: y => by
    unfold natsLt
    rw [natsLt_eq x y, Bool.eq_iff_iff]
    simp only [Bool.or_eq_true, decide_eq_true_eq, Bool.and_eq_true, beq_iff_eq]
    constructor
    · rintro (h | ⟨rfl, h⟩)
      · exact List.cons_lt_cons_iff.mpr (.inl h)
      · exact List.cons_lt_cons_iff.mpr (.inr ⟨rfl, h⟩)
    · exact List.cons_lt_cons_iff.mp
theorem tokLt_eq : ∀ a b : Tok', tokLt a b = PyProof.Rows.itemLt a b
  | .inl _, .inl _ => rfl
  | .inl _, .inr _ => rfl
  | .inr _, .inl _ => rfl
  | .inr a, .inr b => natsLt_eq a b
theorem toksLt_eq : ∀ a b : List Tok', toksLt a b = PyProof.Rows.lexLt PyProof.Rows.itemOrd a b
  | [], [] => rfl
  | [], _ :: _ => rfl
  | _ :: _, [] => rfl
  | x :: r, y :: t => by
    unfold toksLt
    rw [PyProof.Rows.lex_cons, toksLt_eq r t, tokLt_eq x y, tokLt_eq y x]
mutual
theorem toks_py : ∀ d : D, d.dep ≤ 60 → PySem.W.keyToks d.py = d.toks
  | .non, _ | .bl _, _ | .int _, _ | .str _, _ => by simp [D.py, PySem.W.keyToks, D.toks]
  | .fz _, h => by simp [D.dep] at h
  | .lst xs, h => by
    simp only [D.dep] at h
    simp only [D.py, PySem.W.keyToks, D.toks]
    exact toksL_py xs (by omega)
  | .tup xs, h => by
    simp only [D.dep] at h
    simp only [D.py, PySem.W.keyToks, D.toks]
    exact toksL_py xs (by omega)
theorem toksL_py : ∀ xs : List D, D.depL xs ≤ 60 → PySem.W.keyToksAll (D.py.go xs) = D.toksL xs
  | [], _ => by simp [D.py.go, PySem.W.keyToksAll, D.toksL]
  | x :: xs, h => by
    have h1 : max (D.dep x) (D.depL xs) ≤ 60 := by simpa only [D.depL] using h
    simp only [D.py.go, PySem.W.keyToksAll, D.toksL]
    rw [toks_py x (by omega), toksL_py xs (by omega)]
end
mutual
theorem alike_py : ∀ d e : D, D.alike d e = true → PySem.W.alike d.py e.py = true
  | .lst xs, .lst ys, h => by
    simp only [D.alike] at h
    simp only [D.py, PySem.W.alike]
    exact alikeL_py xs ys h
  | .tup xs, .tup ys, h => by
    simp only [D.alike] at h
    simp only [D.py, PySem.W.alike]
    exact alikeL_py xs ys h
  | .non, .non, _ | .bl _, .bl _, _ | .int _, .int _, _ | .str _, .str _, _ => by simp [D.py, PySem.W.alike]
  | .fz _, _, h => by simp [D.alike] at h
  | .non, .fz _, h | .bl _, .fz _, h | .int _, .fz _, h | .str _, .fz _, h | .lst _, .fz _, h | .tup _, .fz _, h => by simp [D.alike] at h
  | .non, .bl _, h | .non, .int _, h | .non, .str _, h | .non, .lst _, h | .non, .tup _, h => by simp [D.alike] at h
  | .bl _, .non, h | .bl _, .int _, h | .bl _, .str _, h | .bl _, .lst _, h | .bl _, .tup _, h => by simp [D.alike] at h
  | .int _, .non, h | .int _, .bl _, h | .int _, .str _, h | .int _, .lst _, h | .int _, .tup _, h => by simp [D.alike] at h
  | .str _, .non, h | .str _, .bl _, h | .str _, .int _, h | .str _, .lst _, h | .str _, .tup _, h => by simp [D.alike] at h
  | .lst _, .non, h | .lst _, .bl _, h | .lst _, .int _, h | .lst _, .str _, h | .lst _, .tup _, h => by simp [D.alike] at h
  | .tup _, .non, h | .tup _, .bl _, h | .tup _, .int _, h | .tup _, .str _, h | .tup _, .lst _, h => by simp [D.alike] at h
theorem alikeL_py : ∀ xs ys : List D, D.alikeL xs ys = true → PySem.W.alikeAll (D.py.go xs) (D.py.go ys) = true
  | [], _, _ => by simp [D.py.go, PySem.W.alikeAll]
  | _ :: _, [], _ => by simp [D.py.go, PySem.W.alikeAll]
  | x :: xs, y :: ys, h => by
    simp only [D.alikeL, Bool.and_eq_true] at h
    simp only [D.py.go, PySem.W.alikeAll, Bool.and_eq_true]
    exact ⟨alike_py x y h.1, alikeL_py xs ys h.2⟩
end
theorem lt_py {d e : D} (h1 : d.dep ≤ 60) (h2 : e.dep ≤ 60) : PySem.W.dataLt d.py e.py = D.lt d e := by
  unfold PySem.W.dataLt D.lt
  rw [toks_py d h1, toks_py e h2, toksLt_eq]
def rLtD (K : PySem.W.Frag) : R2 := fun x y H Q => ∃ d e, Dp K H x d ∧ Dp K H y e ∧ PySem.W.alike d e = true ∧ d ≠ .none ∧ d.depth ≤ 60 ∧ e.depth ≤ 60 ∧ Q (.bl (PySem.W.dataLt d e)) H
def rGtD (K : PySem.W.Frag) : R2 := fun x y H Q => ∃ d e, Dp K H x d ∧ Dp K H y e ∧ PySem.W.alike d e = true ∧ d ≠ .none ∧ d.depth ≤ 60 ∧ e.depth ≤ 60 ∧ Q (.bl (PySem.W.dataLt e d)) H
section
variable {X : Cx}
theorem op_ltD (hu : X.A.units + 64 < cLine) : OpR X (compareOp .Lt) (rLtD X.K) := by
  intro pins s σ H x y v u Q I rx ry h
  obtain ⟨d, e, hd, he, sd, se, k1, k2, q⟩ := h
  obtain ⟨as, r1⟩ := Dp.reads I d x v hd rx
  obtain ⟨bs, r2⟩ := Dp.reads I e y u he ry
  exact PySem.W.lt_data r1 r2 sd se (by omega) ⟨.bl _, H, I, rfl, q⟩
theorem op_gtD (hu : X.A.units + 64 < cLine) : OpR X (compareOp .Gt) (rGtD X.K) := by
  intro pins s σ H x y v u Q I rx ry h
  obtain ⟨d, e, hd, he, sd, se, k1, k2, q⟩ := h
  obtain ⟨as, r1⟩ := Dp.reads I d x v hd rx
  obtain ⟨bs, r2⟩ := Dp.reads I e y u he ry
  exact PySem.W.gt_data r1 r2 sd se (by omega) ⟨.bl _, H, I, rfl, q⟩
abbrev rLtA (K : PySem.W.Frag) : R2 := fun x y H Q => (rI0 fun i j => V.bl (decide (i < j))) x y H Q ∨ rLtD K x y H Q
abbrev rGtA (K : PySem.W.Frag) : R2 := fun x y H Q => (rI0 fun i j => V.bl (decide (j < i))) x y H Q ∨ rGtD K x y H Q
theorem o_lt (hu : X.A.units + 64 < cLine) : OpR X (compareOp .Lt) (rLtA X.K) := OpR.or op_lt (op_ltD hu)
theorem o_gt (hu : X.A.units + 64 < cLine) : OpR X (compareOp .Gt) (rGtA X.K) := OpR.or op_gt (op_gtD hu)
end
section
variable {T : List (Addr × Str)} {cv : Nat → Value} {K : PySem.W.Frag} {B : Bs} {r : En} {σ : St} {F F1 H H1 F' H' : Hp} {E : XK}
theorem non_py {d : D} (h : d.isNon = false) : d.py ≠ .none := fun e => by
  cases d with
  | non => cases h
  | _ => simp [D.py] at e
theorem lt_ok {d e : D} (h : ltOk d e = true) : D.alike d e = true ∧ d.isNon = false ∧ d.dep ≤ 60 ∧ e.dep ≤ 60 := by
  unfold ltOk at h
  simp only [Bool.and_eq_true, decide_eq_true_eq, Bool.not_eq_true'] at h
  exact ⟨h.1.1.1, h.1.1.2, h.1.2, h.2⟩
theorem p_lt' : Op2 T K (rLtA K) opLt := fun B r σ F H x y d e z Q rep dx dy ez q => by
  unfold opLt at ez
  split at ez
  · cases ez
    cases dx
    cases dy
    exact .inl ⟨_, _, rfl, rfl, q F H _ (Same.refl _) rep (.bl _)⟩
  · split at ez
    · rename_i h
      cases ez
      obtain ⟨h1, h2, h3, h4⟩ := lt_ok h
      refine .inr ⟨d.py, e.py, dx.dp rep.ext.sub, dy.dp rep.ext.sub, alike_py _ _ h1, non_py h2, by rw [dep_py d h3]; exact h3, by rw [dep_py e h4]; exact h4, ?_⟩
      rw [lt_py h3 h4]
      exact q F H _ (Same.refl _) rep (.bl _)
    · cases ez
theorem p_gt' : Op2 T K (rGtA K) opGt := fun B r σ F H x y d e z Q rep dx dy ez q => by
  unfold opGt at ez
  split at ez
  · cases ez
    cases dx
    cases dy
    exact .inl ⟨_, _, rfl, rfl, q F H _ (Same.refl _) rep (.bl _)⟩
  · split at ez
    · rename_i h
      cases ez
      obtain ⟨h1, h2, h3, h4⟩ := lt_ok h
      refine .inr ⟨d.py, e.py, dx.dp rep.ext.sub, dy.dp rep.ext.sub, alike_py _ _ h1, non_py h2, by rw [dep_py d h3]; exact h3, by rw [dep_py e h4]; exact h4, ?_⟩
      rw [lt_py h4 h3]
      exact q F H _ (Same.refl _) rep (.bl _)
    · cases ez
end
/-! ### * -/
def rRepS : R2 := fun x y H Q => ∃ (z : Str) (k : Int), x = .str z ∧ y = .int k ∧ -1000 ≤ k ∧ k ≤ 1000 ∧ z.cps.size ≤ 100 ∧ Q (.str ⟨(List.replicate k.toNat z.cps.toList).flatten.toArray⟩) H
theorem rep_fold (z : List Nat) : ∀ (m : Nat) (acc : Array Nat), (List.replicate m z.toArray).foldl (· ++ ·) acc = acc ++ (List.replicate m z).flatten.toArray
  | 0, acc => by simp
  | m + 1, acc => by
    rw [List.replicate_succ, List.foldl_cons, rep_fold z m, List.replicate_succ, List.flatten_cons, Array.append_assoc]
    simp
theorem op_repS {X : Cx} : OpR X (binaryOp .Mult) rRepS := by
  intro pins s σ H x y v u Q I rx ry h
  obtain ⟨z, k, rfl, rfl, h1, h2, h3, q⟩ := h
  obtain ⟨t, rfl⟩ := rx
  obtain ⟨t', rfl⟩ := ry
  have hz : z.length ≤ 100 := h3
  have b1 : k < 1 ∨ (1 ≤ k ∧ k ≤ 1000) := by omega
  refine PySem.P.mul_str ?_ (fun g1 _ => ?_) (fun g1 _ => ?_) ?_
  · rw [decide_eq_false (by omega), decide_eq_false (by omega)]
    rfl
  · have g2 : (1000 : Int) * 1000 ≤ (2 ^ 63 - 1) / k := by
      apply (Int.le_ediv_iff_mul_le (by omega)).mpr
      have : (1000 * 1000) * k ≤ (1000 * 1000) * 1000 := Int.mul_le_mul_of_nonneg_left (by omega) (by omega)
      omega
    omega
  · have g3 : z.length * k.toNat ≤ 100 * 1000 := Nat.mul_le_mul hz (by omega)
    have g4 : z.length * k.toNat ≤ sizeLine := Nat.le_trans g3 (by decide)
    exact decide_eq_false (by omega)
  · have e0 : (⟨(List.replicate k.toNat z.cps).foldl (· ++ ·) #[]⟩ : Str) = ⟨(List.replicate k.toNat z.cps.toList).flatten.toArray⟩ := by
      have := rep_fold z.cps.toList k.toNat #[]
      rw [Array.toArray_toList] at this
      rw [this]
      simp
    split
    · rename_i hk
      have e1 : (⟨(List.replicate k.toNat z.cps.toList).flatten.toArray⟩ : Str) = Str.empty := by
        rw [show k.toNat = 0 by omega]
        rfl
      rw [e1] at q
      exact ⟨by decide, .str _, H, I.tok _, ⟨_, rfl⟩, q⟩
    · split
      · rename_i hk hk2
        have e1 : (⟨(List.replicate k.toNat z.cps.toList).flatten.toArray⟩ : Str) = z := by
          rw [Bool.or_eq_true] at hk2
          rcases hk2 with hk2 | hk2
          · have : k = 1 := by simpa using hk2
            subst this
            simp
          · have hz0 : z.length = 0 := by simpa using hk2
            have hz1 : z.cps = #[] := Array.eq_empty_of_size_eq_zero hz0
            obtain ⟨c⟩ := z
            have hz1 : c = #[] := hz1
            subst hz1
            simp
        rw [e1] at q
        exact ⟨.str _, H, I, ⟨_, rfl⟩, q⟩
      · rw [e0]
        refine ⟨?_, .str _, H, I.tok _, ⟨_, rfl⟩, q⟩
        have g3 : z.length * k.toNat ≤ 100 * 1000 := Nat.mul_le_mul hz (by omega)
        show ((List.replicate k.toNat z.cps.toList).flatten.toArray).size ≤ sizeLine
        rw [List.size_toArray, List.length_flatten, List.map_replicate, List.sum_replicate_nat]
        refine Nat.le_trans ?_ (show 100 * 1000 ≤ sizeLine by decide)
        rw [Nat.mul_comm]
        rw [Array.length_toList]
        exact g3
abbrev rMulA (K : PySem.W.Frag) : R2 := fun x y H Q => (rI CMul (fun i j => V.int (i * j))) x y H Q ∨ (rI CMulW (fun i j => V.int (i * j))) x y H Q ∨ rRepS x y H Q ∨ rRep x y H Q ∨ rRepT K x y H Q
theorem o_mul {X : Cx} : OpR X (binaryOp .Mult) (rMulA X.K) := OpR.or op_mul (OpR.or op_mulW (OpR.or op_repS (OpR.or op_rep op_repT)))
section
variable {T : List (Addr × Str)} {cv : Nat → Value} {K : PySem.W.Frag} {B : Bs} {r : En} {σ : St} {F F1 H H1 F' H' : Hp} {E : XK}
theorem Dvs.rep {vs : List V} {ds : List D} (h : Dvs K F vs ds) : ∀ m : Nat, Dvs K F (List.replicate m vs).flatten (List.replicate m ds).flatten
  | 0 => .nil
  | m + 1 => by
    rw [List.replicate_succ, List.replicate_succ, List.flatten_cons, List.flatten_cons]
    exact h.append (h.rep m)
theorem log_small {i : Int} (h : i.natAbs.log2 ≤ 62) : -(2 ^ 64 : Int) < i ∧ i < 2 ^ 64 := by
  have h1 : i.natAbs < 2 ^ (i.natAbs.log2 + 1) := Nat.lt_log2_self
  have h2 : 2 ^ (i.natAbs.log2 + 1) ≤ 2 ^ 63 := Nat.pow_le_pow_right (by decide) (by omega)
  have e1 : (2 : Int) ^ 64 = 18446744073709551616 := by decide
  have e2 : 2 ^ 63 = 9223372036854775808 := by decide
  rw [e1]
  rw [e2] at h2
  omega
theorem mul_ok {i j : Int} (h : mulOk i j = true) : CMul i j ∨ CMulW i j := by
  unfold mulOk at h
  rw [Bool.or_eq_true, Bool.or_eq_true] at h
  rcases h with h | h | h
  · exact .inl (.inr (log_small (Nat.le_of_ble_eq_true h)))
  · exact .inl (.inl (log_small (Nat.le_of_ble_eq_true h)))
  · exact .inr (Nat.lt_of_le_of_lt (Nat.le_of_ble_eq_true h) (by decide))
theorem p_mul : Op2 T K (rMulA K) opMul := fun B r σ F H x y d e z Q rep dx dy ez q => by
  unfold opMul at ez
  split at ez
  · split at ez
    · rename_i i j hm
      cases ez
      cases dx
      cases dy
      rcases mul_ok hm with hm | hm
      · exact .inl ⟨i, j, rfl, rfl, hm, q F H _ (Same.refl _) rep (.int _)⟩
      · exact .inr (.inl ⟨i, j, rfl, rfl, hm, q F H _ (Same.refl _) rep (.int _)⟩)
    · cases ez
  · split at ez
    · rename_i x0 k hm
      cases ez
      cases dy
      cases dx with
      | str z h1 h2 =>
        obtain ⟨a1, a2, a3⟩ := hm
        have a3 : z.cps.size ≤ 100 := by simpa using a3
        refine .inr (.inr (.inl ⟨z, k, rfl, rfl, a1, a2, a3, q F H _ (Same.refl _) rep ?_⟩))
        have l1 : (List.replicate k.toNat z.cps.toList).flatten.length ≤ lim := by
          rw [List.length_flatten, List.map_replicate, List.sum_replicate_nat]
          have : k.toNat * z.cps.toList.length ≤ 1000 * 100 := Nat.mul_le_mul (by omega) (by simpa using a3)
          exact Nat.le_trans this (by decide)
        have := Dv.str (K := K) (F := F) ⟨(List.replicate k.toNat z.cps.toList).flatten.toArray⟩ (by simpa using l1) (by
          show ((List.replicate k.toNat z.cps.toList).flatten.toArray).all (· < 0x110000) = true
          rw [Array.all_eq_true_iff_forall_mem]
          intro c hc
          rw [List.mem_toArray, List.mem_flatten] at hc
          obtain ⟨l, hl, hc⟩ := hc
          rw [List.mem_replicate] at hl
          rw [hl.2] at hc
          exact Array.all_eq_true_iff_forall_mem.mp (show z.cps.all (· < 0x110000) = true from h2) c (by simpa using hc))
        simpa using this
    · cases ez
  · split at ez
    · rename_i x0 k hm
      cases ez
      cases dy
      cases dx with
      | lst hF dvs =>
        obtain ⟨a1, a2, a3⟩ := hm
        refine .inr (.inr (.inr (.inl ⟨_, k, _, rfl, rfl, rep.ext.sub _ _ hF, by omega, by omega, ?_, fun p hp => rep.new hp (dvs.rep _) Q q⟩)))
        rw [dvs.len]
        have : x0.length * k.toNat ≤ 100 * 1000 := Nat.mul_le_mul a3 (by omega)
        exact Nat.le_trans this (by decide)
    · cases ez
  · split at ez
    · rename_i x0 k hm
      cases ez
      cases dy
      cases dx with
      | tup hF dvs =>
        obtain ⟨a0, a1, a2, a3⟩ := hm
        refine .inr (.inr (.inr (.inr ⟨_, k, _, rfl, rfl, SqT.of (rep.ext.sub _ _ hF), ?_, a1, a2, by rw [dvs.len]; omega, fun p hp => rep.newT hp (dvs.rep _) Q q⟩)))
        intro e
        subst e
        cases dvs
        cases a0
    · cases ez
  · cases ez
end
/-! ### slices -/
section
variable {T : List (Addr × Str)} {cv : Nat → Value} {K : PySem.W.Frag} {B : Bs} {r : En} {σ : St} {F F1 H H1 F' H' : Hp} {E : XK}
theorem sIx_kit (n d : Nat) (o : Option Int) : HT.sIx n d o = sIx n d o := by
  cases o with
  | none => rfl
  | some i =>
    show (if i < 0 then (i + (n : Int)).toNat else min i.toNat n) = (if 0 ≤ i then min i.toNat n else (i + n).toNat)
    by_cases h : i < 0
    · rw [if_pos h, if_neg (by omega)]
    · rw [if_neg h, if_pos (by omega)]
theorem Dvs.drop : ∀ {vs : List V} {ds : List D} (k : Nat), Dvs K F vs ds → Dvs K F (vs.drop k) (ds.drop k)
  | _, _, 0, h => h
  | _, _, _ + 1, .nil => .nil
  | _, _, k + 1, .cons _ t => t.drop k
theorem Dvs.take : ∀ {vs : List V} {ds : List D} (k : Nat), Dvs K F vs ds → Dvs K F (vs.take k) (ds.take k)
  | _, _, 0, _ => .nil
  | _, _, _ + 1, .nil => .nil
  | _, _, k + 1, .cons a t => .cons a (t.take k)
theorem Dvs.rev : ∀ {vs : List V} {ds : List D}, Dvs K F vs ds → Dvs K F vs.reverse ds.reverse
  | _, _, .nil => .nil
  | _, _, .cons a t => by
    rw [List.reverse_cons, List.reverse_cons]
    exact t.rev.append (.cons a .nil)
theorem Dvs.cut {vs : List V} {ds : List D} (h : Dvs K F vs ds) (lo hi : Option Int) : Dvs K F (cutV vs lo hi) (FB.cut ds lo hi) := by
  unfold cutV FB.cut
  rw [sIx_kit, sIx_kit, h.len]
  exact (h.drop _).take _
theorem str_dv {l : List Nat} (h : l.length ≤ lim) (ok : ∀ c ∈ l, c < 0x110000) : Dv K F (.str ⟨l.toArray⟩) (.str l) := by
  have := Dv.str (K := K) (F := F) ⟨l.toArray⟩ (by simpa using h) (by
    show (l.toArray).all (· < 0x110000) = true
    rw [Array.all_eq_true_iff_forall_mem]
    intro c hc
    simpa using ok c (by simpa using hc))
  simpa using this
theorem strOk_mem {x : Str} (ok : PyData.strOk x = true) : ∀ c ∈ x.cps.toList, c < 0x110000 := fun c hc => by
  have := Array.all_eq_true_iff_forall_mem.mp (show x.cps.all (· < 0x110000) = true from ok) c (by simpa using hc)
  simpa using this
abbrev rSlAll (K : PySem.W.Frag) : V → Option Int → Option Int → Hp → VK → Prop := fun x lo hi H Q => rSlS x lo hi H Q ∨ rSlL K x lo hi H Q ∨ rSlA K x lo hi H Q
theorem sl_all {X : Cx} : SlR X (rSlAll X.K) := SlR.or sl_str (SlR.or sl_list sl_tupA)
theorem p_sl {lo hi : Option Int} {x : V} {d z : D} {Q : VK} (rep : Rep T K B r σ F H) (dx : Dv K F x d) (ez : opSl lo hi d = some z) (q : ∀ F' H' v, Same F F' → Rep T K B r σ F' H' → Dv K F' v z → Q v H') : rSlAll K x lo hi H Q := by
  cases dx with
  | str x h1 h2 =>
    cases ez
    refine .inl ⟨x, rfl, lim_le h1, q F H _ (Same.refl _) rep ?_⟩
    have e : cutS x lo hi = ⟨(FB.cut x.cps.toList lo hi).toArray⟩ := by
      unfold cutS FB.cut
      rw [sIx_kit, sIx_kit, Array.length_toList]
      rfl
    rw [e]
    refine str_dv ?_ fun c hc => strOk_mem h2 c ?_
    · have : (FB.cut x.cps.toList lo hi).length ≤ x.cps.toList.length := by
        unfold FB.cut
        rw [List.length_take, List.length_drop]
        omega
      exact Nat.le_trans this (by rw [Array.length_toList]; exact h1)
    · exact List.mem_of_mem_drop (List.mem_of_mem_take hc)
  | lst hF dvs =>
    cases ez
    exact .inr (.inl ⟨_, _, rfl, SqL.of (rep.ext.sub _ _ hF), fun p hp => rep.new hp (dvs.cut lo hi) Q q⟩)
  | tup hF dvs =>
    rename_i a0 vs ds
    cases ez
    refine .inr (.inr ⟨_, _, rfl, SqT.of (rep.ext.sub _ _ hF), fun ⟨e1, e2⟩ => ?_, fun _ p hp => rep.newT hp (dvs.cut lo hi) Q q⟩)
    have e : FB.cut ds lo hi = ds := by
      unfold FB.cut
      rw [← sIx_kit, ← sIx_kit, ← dvs.len, e1, e2, List.drop_zero, dvs.len]
      simp
    rw [e] at q
    exact q F H _ (Same.refl _) rep (.tup hF dvs)
  | _ => cases ez
end
section
variable {T : List (Addr × Str)} {cv : Nat → Value} {X : Cx} {E : XK} {e a b c tg iter : Expr} {lo hi : Option Expr} {es : List Expr} {pos p1 p2 p3 : Pos} {fa fb fc : M D} {fl fh : Eg}
def DO (T : List (Addr × Str)) (cv : Nat → Value) (X : Cx) (E : XK) (o : Option Expr) (f : Eg) : Prop := ∃ t, PO X o t ∧ ∀ B r σ F H Q, Rep T X.K B r σ F H → Po T cv (fun _ (b b' : Option Int) => b = b') X.K B σ F E Q (f r) → t σ H Q
theorem do_no : DO T cv X E none gNo := ⟨_, po_none, fun B r σ F H Q rep h => h F H none (Same.refl _) rep rfl⟩
theorem do_so (ha : DE T cv X E a fa) : DO T cv X E (some a) (gSo fa) := by
  obtain ⟨t, p, q⟩ := ha
  refine ⟨_, po_some p, fun B r σ F H Q rep h => ?_⟩
  refine q B r σ F H _ rep (Po.bind h fun d r1 F1 H1 x _ s1 rep1 dx h1 => ?_)
  cases d with
  | int i =>
    cases dx
    exact ⟨i, rfl, h1 F1 H1 _ (Same.refl _) rep1 rfl⟩
  | _ => exact h1.elim
theorem de_sl (ha : DE T cv X E a fa) (hl : DO T cv X E lo fl) (hh : DO T cv X E hi fh) : DE T cv X E (.Subscript a (.Slice lo hi none p2) pos) (eSl fa fl fh) := by
  obtain ⟨t, p, q⟩ := ha
  obtain ⟨t1, pl, ql⟩ := hl
  obtain ⟨t2, ph, qh⟩ := hh
  refine ⟨_, pe_slice sl_all p pl ph, fun B r σ F H Q rep h => ?_⟩
  refine q B r σ F H _ rep (Po.bind h fun d r1 F1 H1 x _ s1 rep1 dx h1 => ?_)
  refine ql B r1 σ F1 H1 _ rep1 (Po.bind h1 fun l r2 F2 H2 y _ s2 rep2 dy h2 => ?_)
  subst dy
  refine qh B r2 σ F2 H2 _ rep2 (Po.bind h2 fun u r3 F3 H3 y _ s3 rep3 dy h3 => ?_)
  subst dy
  obtain ⟨z, ez, q⟩ := h3.lift
  exact p_sl rep3 ((dx.mono s2).mono s3) ez q
end
/-! ### [::-1] -/
theorem rev_pick (z : Str) (t t' : Tok) : sliceMade z t none none (some (-1, t')) = .str ⟨z.cps.toList.reverse.toArray⟩ := by
  unfold sliceMade slicePicked Builtin.Str.strSliceIndices
  simp only [Option.map_some, Option.map_none, Option.getD_some]
  rw [if_neg (by simp), if_neg (by decide), if_neg (by decide)]
  have e : sliceRange ((z.length : Int) - 1) (-1) (-1) = (List.range z.cps.size).reverse := by
    rw [PySem.W.krv_sliceRange, PySem.W.krv_range]
    rfl
  rw [e, List.filterMap_reverse, PySem.W.krv_all]
def tRevA (K : PySem.W.Frag) (te : TE) : TE := fun σ H Q => te σ H fun x H1 => (∃ z, x = .str z ∧ z.length ≤ sizeLine ∧ Q (.str ⟨z.cps.toList.reverse.toArray⟩) H1)
theorem pe_revS {X : Cx} {e : Expr} {te : TE} {k : Nat} {p1 p2 p3 pos : Pos} (he : PE X e te) : PE X (.Subscript e (.Slice none none (some (.UnaryOp .USub (.Constant (.int 1) k p1) p2)) p3) pos) (tRevA X.K te) := by
  refine ⟨fun pins s σ H Q I h => ?_⟩
  refine PyProof.Rows.Subscript_ (thn (he.run pins s σ H _ I h) fun v s1 ⟨x, H1, I1, r1, q1⟩ => ?_)
  obtain ⟨z, ex, hz, q⟩ := q1
  subst ex
  obtain ⟨t0, rfl⟩ := r1
  have hst : PO X (some (.UnaryOp .USub (.Constant (.int 1) k p1) p2)) (tPart (tUn (rU fun i => .int (-i)) (tC (.int 1)))) := po_some (pe_un un_neg pe_int)
  refine wpAny_Slice (thn (po_none.run pins s1 σ H1 (fun o H2 => o = none ∧ H2 = H1) I1 ⟨rfl, rfl⟩) fun vl s2 ⟨l, H2, I2, pl, el, e2⟩ => ?_)
  subst el e2
  refine thn (po_none.run pins s2 σ H2 (fun o H3 => o = none ∧ H3 = H2) I2 ⟨rfl, rfl⟩) fun vu s3 ⟨u, H3, I3, pu, eu, e3⟩ => ?_
  subst eu e3
  refine thn (hst.run pins s3 σ H3 (fun o H4 => o = some (-1) ∧ H4 = H3) I3 ⟨1, rfl, -1, rfl, rfl, rfl⟩) fun vs s4 ⟨o, H4, I4, ps, eo, e4⟩ => ?_
  subst eo e4
  have I5 : Inv X pins σ H4 { s4 with heap := s4.heap.push { cls := .type "slice", data := .fields #[vl, vu, vs] } } := I4.kept (t' := s4.toks) fun b ob q => Heap.get?_push_of_some _ q
  cases pl
  cases pu
  cases ps with
  | int _ t9 =>
    refine PyProof.Rows.tail_any (ops := [.str z t0, .ref s4.heap.objs.size]) (typeIs_str _ _ _) PySem.F.slot_str_getitem.lookup ?_ (by with_unfolding_all rfl)
    refine wpAny_getItem_str_slice (l := none) (u := none) (st := some (-1, t9)) ⟨_, Heap.get?_push_size _ rfl, rfl, rfl⟩ rfl ?_
    rw [rev_pick]
    exact ⟨by show (z.cps.toList.reverse.toArray).size ≤ sizeLine; rw [List.size_toArray, List.length_reverse, Array.length_toList]; exact hz, .str _, H4, I5.tok _, ⟨_, rfl⟩, q⟩
section
variable {T : List (Addr × Str)} {cv : Nat → Value} {X : Cx} {E : XK} {e a b c : Expr} {pos p1 p2 p3 : Pos} {fa fb fc : M D} {k : Nat}
theorem PE.or {t t' : TE} (h : PE X e t) (h' : PE X e t') : PE X e (fun σ H Q => t σ H Q ∨ t' σ H Q) := ⟨fun pins s σ H Q I q => q.elim (h.run pins s σ H Q I) (h'.run pins s σ H Q I)⟩
/-- x[::-1] -/
theorem de_rev (ha : DE T cv X E a fa) : DE T cv X E (.Subscript a (.Slice none none (some (.UnaryOp .USub (.Constant (.int 1) k p1) p2)) p3) pos) (e1 opRevSL fa) := by
  obtain ⟨t, p, q⟩ := ha
  refine ⟨_, PE.or (pe_revL p) (pe_revS p), fun B r σ F H Q rep h => ?_⟩
  unfold e1 at h
  cases ef : fa r with
  | bad =>
    rw [ef] at h
    exact h.elim
  | exc c r1 =>
    rw [ef] at h
    refine .inl (q B r σ F H _ rep ?_)
    rw [ef]
    exact h
  | ok d r1 =>
    rw [ef] at h
    cases d with
    | str s =>
      refine .inr (q B r σ F H _ rep ?_)
      rw [ef]
      intro F1 H1 x s1 rep1 dx
      cases dx with
      | str z h1 h2 =>
        refine ⟨z, rfl, lim_le h1, h F1 H1 _ s1 rep1 ?_⟩
        exact str_dv (by simpa using h1) fun c hc => strOk_mem h2 c (List.mem_reverse.mp hc)
    | lst xs =>
      refine .inl (q B r σ F H _ rep ?_)
      rw [ef]
      intro F1 H1 x s1 rep1 dx
      cases dx with
      | lst hF dvs => exact ⟨_, _, rfl, SqL.of (rep1.ext.sub _ _ hF), fun p hp => rep1.new hp dvs.rev Q fun F' H' v s' => h F' H' v (s1.trans s')⟩
    | _ => exact h.elim
/-! ### the table -/
structure TabF (K : PySem.W.Frag) (w : World) (mg : Str → Option Value) : Prop where
  ex : ∃ a : Addr, mg "OTHER" = some (.ref a) ∧ KDct K w a "#" (.str ".") ∧ KDct K w a "." (.str "#") ∧ KDct K w a "*" (.str "o") ∧ KDct K w a "o" (.str "*")
theorem tx_of {s : String} {c : Nat} (h : (Str.ofString s).cps.toList = [c]) (hc : c < 0x110000) {F : Hp} {K : PySem.W.Frag} : Dv K F (.str (Str.ofString s)) (.str [c]) := by
  have := Dv.str (K := K) (F := F) (Str.ofString s) (by
    have : (Str.ofString s).cps.toList.length = 1 := by rw [h]; rfl
    rw [Array.length_toList] at this
    rw [this]
    decide) (by
    show (Str.ofString s).cps.all (· < 0x110000) = true
    rw [Array.all_eq_true_iff_forall_mem]
    intro d hd
    have : d ∈ (Str.ofString s).cps.toList := by simpa using hd
    rw [h] at this
    simp only [List.mem_singleton] at this
    subst this
    simpa using hc)
  rwa [h] at this
theorem str_is {x : Str} {s : String} {c : Nat} (h : (Str.ofString s).cps.toList = [c]) (hx : x.cps.toList = [c]) : x = Str.ofString s := by
  have e : x.cps = (Str.ofString s).cps := by rw [← Array.toList_inj, hx, h]
  revert e
  generalize Str.ofString s = y
  intro e
  cases x
  cases y
  rw [Str.mk.injEq]
  exact e
theorem dv_str1 {K : PySem.W.Frag} {F : Hp} {x : V} {l : List Nat} (dx : Dv K F x (.str l)) : ∃ x0, x = .str x0 ∧ x0.cps.toList = l := by
  generalize hd : D.str l = d at dx
  cases dx with
  | str x0 h1 h2 =>
    injection hd with hd
    exact ⟨x0, rfl, hd.symm⟩
  | _ => cases hd
theorem de_tab (hg : Gl X "OTHER") (t : TabF X.K X.w X.mg) (hb : DE T cv X E b fb) (hs : PlainIx b) : DE T cv X E (.Subscript (.Name "OTHER" p1) b pos) (e1 tabO fb) := by
  obtain ⟨a, hm, k1, k2, k3, k4⟩ := t.ex
  obtain ⟨tb, pb, qb⟩ := hb
  refine ⟨_, pe_ix ix_kdict (pe_glob (v := .ref a) hg hm rfl (by decide +kernel)) pb hs, fun B r σ F H Q rep h => ?_⟩
  refine qb B r σ F H _ rep (Po.bind h fun d r1 F1 H1 x _ s1 rep1 dx h1 => ?_)
  obtain ⟨z, ez, q⟩ := h1.lift
  have q1 := fun v dv => q F1 H1 v (Same.refl _) rep1 dv
  unfold tabO at ez
  split at ez
  · cases ez
    obtain ⟨x0, rfl, e0⟩ := dv_str1 dx
    exact ⟨a, "#", _, rfl, by rw [str_is (s := "#") (by decide +kernel) e0], k1, q1 _ (tx_of (by decide +kernel) (by decide))⟩
  · cases ez
    obtain ⟨x0, rfl, e0⟩ := dv_str1 dx
    exact ⟨a, ".", _, rfl, by rw [str_is (s := ".") (by decide +kernel) e0], k2, q1 _ (tx_of (by decide +kernel) (by decide))⟩
  · cases ez
    obtain ⟨x0, rfl, e0⟩ := dv_str1 dx
    exact ⟨a, "*", _, rfl, by rw [str_is (s := "*") (by decide +kernel) e0], k3, q1 _ (tx_of (by decide +kernel) (by decide))⟩
  · cases ez
    obtain ⟨x0, rfl, e0⟩ := dv_str1 dx
    exact ⟨a, "o", _, rfl, by rw [str_is (s := "o") (by decide +kernel) e0], k4, q1 _ (tx_of (by decide +kernel) (by decide))⟩
  · cases ez
end
end FB
/-! The law's rounds, the law. -/
namespace FB
open PySem PySem.Spec L2
/-- the rounds' list: its items are lists of two ints each, apart from one another -/
structure Rnd (T : List (Addr × Str)) (H : Hp) (p : Addr) (ps : List (Addr × Int)) : Prop where
  tb : LamX.Tabs T H
  at_ : H p = some (.lst (ps.map fun q => V.ref q.1))
  off : ∀ q ∈ ps, q.1 ≠ p
  nd : (ps.map (·.1)).Nodup
  it : ∀ q ∈ ps, H q.1 = some (.lst [.int q.2, .int 0])
def spRounds (T : List (Addr × Str)) (K : PySem.W.Frag) : Sp := fun vs H Q _ => ∃ (a : Addr) (ns : List Int) (m : Int), vs = [.ref a, .int m] ∧ (ns.length ≤ 63 ∧ m ≤ 1000) ∧ SqL K H a (ns.map V.int) ∧ LamX.Tabs T H ∧ ∀ H' p ps, Rnd T H' p ps → Q (.ref p) H'
def spLaw (T : List (Addr × Str)) (K : PySem.W.Frag) : Sp := fun vs H Q _ => ∃ (a : Addr) (ns : List Int), vs = [.ref a] ∧ ns.length ≤ 63 ∧ SqL K H a (ns.map V.int) ∧ LamX.Tabs T H ∧ ∀ H', Q (.bl true) H'
section
variable {T : List (Addr × Str)} {cv : Nat → Value} {X : Cx} {E : XK} {e a b c tg iter : Expr} {es : List Expr} {pos : Pos} {fa fb fc : M D} {fs fi : M (List D)} {st : Stmt} {rest body : List Stmt} {f g : M Fl} {tA : M Bool}
theorem pe_rounds {ec : Expr} {scope : Scope} {ps p0 : Pos} {j0 : Nat} {own : List (Str × Nat)} {te : M D} (hc : X.calm = true) (hN : X.N.Nodup) (hi : DI T cv X E tg iter fi) (ok : BlkOk X.N X.env.scope scope own) (hv : own.map (·.2) = [2])
    (hg : ∀ (s : Shared) (H : Hp) (C : Addr) (cl : List (Str × Addr)) (fp : List Addr), DG T (X.blk s H scope (compEnvC scope cl C X.env) fp) tg (gN 2) [2])
    (he : ∀ (s : Shared) (H : Hp) (C : Addr) (cl : List (Str × Addr)) (fp : List Addr), DE T cv (X.blk s H scope (compEnvC scope cl C X.env) fp) E0 ec te)
    (hst : ∀ (s : Shared) (H : Hp) (C : Addr) (cl : List (Str × Addr)) (fp : List Addr), starEach [ec, .Constant (.int 0) j0 p0] (X.blk s H scope (compEnvC scope cl C X.env) fp).env = (false, eval ec (X.blk s H scope (compEnvC scope cl C X.env) fp).env) :: starEach [.Constant (.int 0) j0 p0] (X.blk s H scope (compEnvC scope cl C X.env) fp).env)
    {ns : List Int} {m : Int} {xs : List D} (hfi : fi [.dat (.fz ns), .dat (.int m), .un] = .ok xs [.dat (.fz ns), .dat (.int m), .un]) (hl : xs.length ≤ lim)
    (hte : ∀ x ∈ xs, ∃ c, te [.dat (.fz ns), .dat (.int m), .dat x] = .ok (.int c) [.dat (.fz ns), .dat (.int m), .dat x]) (hs : ∀ x, foldedSetIterable iter X.env x = pure x := by intro _; rfl) :
    ∃ t, PE X (.ListComp (.List [ec, .Constant (.int 0) j0 p0] ps) [⟨tg, iter, [], 0⟩] scope pos) t ∧ ∀ ad H Q, SqL X.K H ad (ns.map V.int) → LamX.Tabs T H → (∀ H' p ps, Rnd T H' p ps → Q (.ref p) H') → t [some (.ref ad), some (.int m), none] H Q := by
  obtain ⟨wi, pi, qi⟩ := hi
  refine ⟨_, pe_lc (g := gD T X.K (gN 2) [2]) (tt := tYes) (te := tLst (tCons (tD T cv X.K E0 te) (tCons (tC (.int 0)) tNil))) hc hN pi ok (fun s H C cl fp => (hg s H C cl fp).pg) (fun s H C cl fp => pts_nil)
    (fun s H C cl fp => pe_lst (pa_cons (he s H C cl fp).pe (pa_cons pe_int pa_nil) (hst s H C cl fp))) hs, fun ad H Q hA hT q => ?_⟩
  rw [hv]
  obtain ⟨F0, s0, n0, a0⟩ : ∃ F0 : Hp, Same F0 H ∧ NT F0 ∧ SqL X.K F0 ad (ns.map V.int) := by
    rcases hA with h | h
    · obtain ⟨u, h, hu, nu⟩ : ∃ u, H ad = some u ∧ Rd (upd (fun _ => none) ad u) ad (.lst (ns.map V.int)) ∧ NoT u := by
        rcases h with h | ⟨o, h⟩
        · exact ⟨_, h, .inl upd_same, not_lst⟩
        · exact ⟨_, h, .inr ⟨o, upd_same⟩, fun _ z => nomatch z⟩
      refine ⟨upd (fun _ => none) ad u, fun b o e => ?_, NT.upd (fun b o e => by cases e) nu, .inl hu⟩
      by_cases hb : b = ad
      · subst hb
        rw [upd_same] at e
        rw [h]
        exact e
      · rw [upd_ne hb] at e
        cases e
    · exact ⟨fun _ => none, fun b o e => (by cases e), fun b o e => (by cases e), .inr h⟩
  have rep : Rep T X.K ⟨fun _ => False, F0, H⟩ [.dat (.fz ns), .dat (.int m), .un] [some (.ref ad), some (.int m), none] F0 H :=
    start_rep (N := ["script", "most", "k"]) (ds := [.fz ns, .int m]) (vs := [.ref ad, .int m]) s0 ⟨hT, n0⟩ (.cons (.fz a0) (.cons (.int m) .nil)) (by show 2 ≤ 3; omega)
  refine qi _ _ _ _ H _ rep ?_
  rw [hfi]
  intro F1 H1 J s1 rep1 wk Dl hD
  have sA : SqL X.K F1 ad (ns.map V.int) := by
    obtain ⟨v, h1, h2⟩ := rep1.dat 0 (.fz ns) rfl
    cases h1
    cases h2
    assumption
  have w0 : wipe [some (V.ref ad), some (V.int m), none] [2] = [some (V.ref ad), some (V.int m), none] := rfl
  refine ⟨fun i mm H => mm = xs.length - i ∧ i ≤ xs.length ∧ ∃ F ps, Same F1 F ∧ NT F ∧ Same F H ∧ F Dl = none ∧ ps.length = i ∧ Rnd T H Dl ps ∧ ∀ q ∈ ps, F q.1 = none, ?_, ?_⟩
  · refine ⟨xs.length, rfl, Nat.zero_le _, F1, [], Same.refl _, rep1.ext.nt, rep1.ext.sub.trans (same_upd hD), rep1.free hD, rfl, ⟨rep1.ext.tb.ext (same_upd hD), upd_same, fun q h => (by cases h), List.nodup_nil, fun q h => (by cases h)⟩, fun q h => (by cases h)⟩
  · rintro i mm Hh ⟨rfl, hi, F, pps, sF, nF, sH, fD, hlen, rnd, fN⟩
    obtain ⟨stop, go⟩ := wk i Hh (sF.trans sH)
    by_cases hlt : i < xs.length
    · obtain ⟨hgo, hy⟩ := go xs[i] (List.getElem?_eq_getElem hlt)
      refine .inr ⟨hgo, fun H => ∃ F ps, Same F1 F ∧ NT F ∧ Same F H ∧ F Dl = none ∧ ps.length = i + 1 ∧ Rnd T H Dl ps ∧ ∀ q ∈ ps, F q.1 = none, fun H' w => ⟨xs.length - (i + 1), by omega, rfl, hlt, w⟩, fun x H3 yl => ?_⟩
      have item : ∃ F3, Same F F3 ∧ NT F3 ∧ Same F3 H3 ∧ Dv X.K F3 x xs[i] ∧ Rnd T H3 Dl pps ∧ F3 Dl = none ∧ ∀ q ∈ pps, F3 q.1 = none := by
        rcases hy x H3 yl with ⟨e, dv⟩ | ⟨p0, us, ds, hn, e, ex, ed, dvs⟩
        · subst e
          exact ⟨F, Same.refl _, nF, sH, dv.mono sF, rnd, fD, fN⟩
        · subst e
          have n0 := sH.free hn
          have ne : ∀ b o, Hh b = some o → b ≠ p0 := fun b o h => ne_of_none h hn
          refine ⟨upd F p0 (.tup us), same_upd n0, nF.upd not_tup, same_both sH, ?_, ⟨rnd.tb.ext (same_upd hn), ?_, rnd.off, rnd.nd, fun q hq => ?_⟩, ?_, fun q hq => ?_⟩
          · rw [ex, ed]
            exact .tup upd_same (dvs.mono (sF.trans (same_upd n0)))
          · rw [upd_ne (ne _ _ rnd.at_)]
            exact rnd.at_
          · rw [upd_ne (ne _ _ (rnd.it q hq))]
            exact rnd.it q hq
          · rw [upd_ne (ne _ _ rnd.at_)]
            exact fD
          · rw [upd_ne (ne _ _ (rnd.it q hq))]
            exact fN q hq
      obtain ⟨F3, sF3, nF3, sH3, dv, rnd3, fD3, fN3⟩ := item
      have rep3 : Rep T X.K ⟨fun _ => False, F3, H3⟩ [.dat (.fz ns), .dat (.int m), .un] [some (.ref ad), some (.int m), none] F3 H3 :=
        start_rep (N := ["script", "most", "k"]) (ds := [.fz ns, .int m]) (vs := [.ref ad, .int m]) sH3 ⟨rnd3.tb, nF3⟩ (.cons (.fz ((sF.trans sF3).seq sA)) (.cons (.int m) .nil)) (by show 2 ≤ 3; omega)
      refine ⟨_, _, F3, xs[i], _, rep3, dv, rfl, fun σ2 rep4 hw => ⟨hw, ?_⟩⟩
      unfold tYes
      dsimp only
      rw [if_pos rfl]
      obtain ⟨c, hcx⟩ := hte xs[i] (List.getElem_mem hlt)
      refine ⟨_, _, F3, rep4, ?_⟩
      show PoE T cv X.K _ σ2 F3 E0 _ (te [.dat (.fz ns), .dat (.int m), .dat xs[i]])
      rw [hcx]
      intro F6 H6 v s6 rep6 dv6
      cases dv6
      refine ⟨by show 2 ≤ sizeLine; decide, fun p hp => ?_⟩
      have at6 : H6 Dl = some (.lst (pps.map fun q => V.ref q.1)) := rep6.ext.hh _ _ rnd3.at_ not_lst (fun z => z)
      have f6 : F6 Dl = none := rep6.ext.nf _ _ rnd3.at_ not_lst fD3
      have nD : Dl ≠ p := ne_of_none at6 hp
      refine ⟨_, by rw [upd_ne nD]; exact at6, by rw [List.length_map, hlen]; exact Nat.lt_of_lt_of_le hlt (Nat.le_trans hl (by decide)), ?_⟩
      have it6 : ∀ q ∈ pps, H6 q.1 = some (.lst [.int q.2, .int 0]) := fun q hq => rep6.ext.hh _ _ (rnd3.it q hq) not_lst (fun z => z)
      have fp : F6 p = none := rep6.free hp
      have sU : Same F6 (upd H6 p (.lst [.int c, .int 0])) := rep6.ext.sub.trans (same_upd hp)
      have wr := Ext.write (F := F6) (H := upd H6 p (.lst [.int c, .int 0])) (us := (pps.map fun q => V.ref q.1) ++ [V.ref p]) sU (rep6.ext.tb.ext (same_upd hp)) rep6.ext.nt (p := Dl) (by rw [upd_ne nD]; exact at6) f6
      refine ⟨F6, pps ++ [(p, c)], (sF.trans sF3).trans s6, rep6.ext.nt, wr.sub, f6, by rw [List.length_append, hlen]; rfl, ⟨wr.tb, ?_, fun q hq => ?_, ?_, fun q hq => ?_⟩, fun q hq => ?_⟩
      · rw [upd_same, List.map_append]
        rfl
      · rcases List.mem_append.mp hq with h | h
        · exact rnd3.off q h
        · rw [List.mem_singleton.mp h]
          exact Ne.symm nD
      · rw [List.map_append, List.nodup_append]
        refine ⟨rnd3.nd, by simp, fun u hu w hw' => ?_⟩
        obtain ⟨q, hq, rfl⟩ := List.mem_map.mp hu
        have hw' : w = p := by simpa using hw'
        rw [hw']
        exact ne_of_none (it6 q hq) hp
      · rcases List.mem_append.mp hq with h | h
        · have e1 : q.1 ≠ Dl := rnd3.off q h
          rw [upd_ne e1, upd_ne (ne_of_none (it6 q h) hp)]
          exact it6 q h
        · rw [List.mem_singleton.mp h]
          rw [upd_ne (Ne.symm nD), upd_same]
      · rcases List.mem_append.mp hq with h | h
        · exact rep6.ext.nf _ _ (rnd3.it q h) not_lst (fN3 q h)
        · rw [List.mem_singleton.mp h]
          exact fp
    · have e : i = xs.length := by omega
      subst e
      exact .inl ⟨stop rfl, q _ _ pps rnd⟩
/-- for dice in ..: body; return True -/
theorem law_core {n di k1 : Nat} {ti : TE} {σ0 : St} {H0 : Hp} {p1 p2 px : Pos} {x : Str} (hp : PassesOwn (model X.prog X.w) X.A X.env X.xe) (hc : X.calm = true) (pe : PE X iter ti) (hti : ∀ Q : VK, (∀ H' p ps, Rnd T H' p ps → Q (.ref p) H') → ti σ0 H0 Q)
    (hN : X.N.Nodup) (hi : X.N[di]? = some x) (hx : Loc X.env.scope x) (hb : DSs T cv X E body f) (hn : σ0.length = n) (hdi : di < n)
    (hf : ∀ c : Int, ∃ r', f ((List.replicate n Sl.un).set di (.bor [.int c, .int 0])) = .ok .nx r' ∧ r'.length = n)
    (hs : ∀ x, foldedSetIterable iter X.env x = pure x := by intro _; rfl) (hfn : X.fn x = true ∨ X.env.scope.names.lookup x = some .local := by first | exact .inl rfl | exact .inr rfl | assumption) :
    ∃ t, PSs X [.For (.Name x px) iter body [] pos, .Return (some (.Constant (.bool true) k1 p1)) p2] t ∧ ∀ D : Ends, (∀ H, D.rt (.bl true) H) → t D σ0 H0 := by
  obtain ⟨tb, pb, qb⟩ := hb
  refine ⟨_, pss_cons (ps_for hp hc (pi_list pe) (pg_name hN hi hx hfn) pb hs) (pss_one (ps_ret pe_bl)), fun D hD => ?_⟩
  refine hti _ fun H p ps rnd => ⟨p, rfl, ⟨_, SqL.of rnd.at_⟩, ?_⟩
  refine ⟨fun i m σ H => m = ps.length - i ∧ i ≤ ps.length ∧ σ.length = n ∧ LamX.Tabs T H ∧ H p = some (.lst (ps.map fun q => V.ref q.1)) ∧ ∀ (j : Nat) q, i ≤ j → ps[j]? = some q → H q.1 = some (.lst [.int q.2, .int 0]),
    ⟨ps.length, rfl, Nat.zero_le _, hn, rnd.tb, rnd.at_, fun j q _ h => rnd.it q (List.mem_of_getElem? h)⟩, ?_⟩
  rintro i m σ H ⟨rfl, hi, hσ, tb1, at1, it1⟩
  by_cases hlt : i < ps.length
  · have hget : ps[i]? = some ps[i] := List.getElem?_eq_getElem hlt
    have hgetV : (ps.map fun q => V.ref q.1)[i]? = some (V.ref ps[i].1) := by rw [List.getElem?_map, hget]; rfl
    refine .inr ⟨⟨_, _, SqL.of at1, hgetV⟩, fun σ' H' => σ'.length = n ∧ LamX.Tabs T H' ∧ H' p = some (.lst (ps.map fun q => V.ref q.1)) ∧ ∀ (j : Nat) q, i + 1 ≤ j → ps[j]? = some q → H' q.1 = some (.lst [.int q.2, .int 0]),
      fun σ' H' w => ⟨ps.length - (i + 1), by omega, rfl, hlt, w⟩, fun v H' yl => ?_⟩
    obtain ⟨e, hv⟩ := yl
    rw [e]
    have hv := hv _ (SqL.of at1)
    rw [hgetV] at hv
    cases hv
    show tb _ (σ.set di (some (V.ref ps[i].1))) H
    have iti := it1 i ps[i] (Nat.le_refl _) hget
    have rep : Rep T X.K ⟨fun b => b = ps[i].1, fun _ => none, H⟩ ((List.replicate n Sl.un).set di (.bor [.int ps[i].2, .int 0])) (σ.set di (some (V.ref ps[i].1))) (fun _ => none) H := by
      have sl : ∀ (j : Nat) s, ((List.replicate n Sl.un).set di (.bor [.int ps[i].2, .int 0]))[j]? = some s → (j = di ∧ s = .bor [.int ps[i].2, .int 0]) ∨ s = .un := fun j s h => by
        by_cases hj : j = di
        · subst hj
          rw [List.getElem?_set_self (by rw [List.length_replicate]; exact hdi)] at h
          exact .inl ⟨rfl, (Option.some.inj h).symm⟩
        · rw [List.getElem?_set_ne (Ne.symm hj), List.getElem?_replicate] at h
          split at h
          · exact .inr (Option.some.inj h).symm
          · cases h
      have on : ∀ j : Nat, notOwn ((List.replicate n Sl.un).set di (.bor [.int ps[i].2, .int 0]))[j]? = false → j = di := fun j h => by
        cases ej : ((List.replicate n Sl.un).set di (.bor [.int ps[i].2, .int 0]))[j]? with
        | none =>
          rw [ej] at h
          cases h
        | some s =>
          rcases sl j s ej with ⟨h1, _⟩ | h1
          · exact h1
          · rw [ej, h1] at h
            cases h
      refine ⟨Ext.refl (fun b o h => (by cases h)) tb1 (fun b o h => (by cases h)) fun b hb => ⟨.lst [.int ps[i].2, .int 0], (show b = ps[i].1 from hb) ▸ iti, not_lst, rfl⟩, by rw [List.length_set, List.length_set, List.length_replicate, hσ], fun j d h => ?_, fun j zs h => ?_, fun j zs h => ?_, fun j j' q h1 h2 _ _ => by rw [on j h1, on j' h2]⟩
      · rcases sl j _ h with ⟨_, h1⟩ | h1 <;> cases h1
      · rcases sl j _ h with ⟨_, h1⟩ | h1 <;> cases h1
      · rcases sl j _ h with ⟨h1, h2⟩ | h1
        · subst h1
          cases h2
          exact ⟨ps[i].1, _, List.getElem?_set_self (by rw [hσ]; exact hdi), iti, rfl, .cons (.int _) (.cons (.int _) .nil), rfl⟩
        · cases h1
    refine qb _ _ _ _ H _ rep ?_
    obtain ⟨r', hr, hrl⟩ := hf ps[i].2
    rw [hr]
    intro σ' F' H' s' rep'
    refine ⟨by rw [← rep'.len, hrl], rep'.ext.tb, rep'.ext.hh _ _ at1 not_lst (fun z => rnd.off _ (List.getElem_mem hlt) z.symm), fun j q hj hq => ?_⟩
    refine rep'.ext.hh _ _ (it1 j q (by omega) hq) not_lst fun z => ?_
    have z : q.1 = ps[i].1 := z
    have nd := rnd.nd
    have e1 : (ps.map (·.1))[i]? = some ps[i].1 := by rw [List.getElem?_map, hget]; rfl
    have e2 : (ps.map (·.1))[j]? = some ps[i].1 := by rw [List.getElem?_map, hq, ← z]; rfl
    have hjl : j < (ps.map (·.1)).length := (List.getElem?_eq_some_iff.mp e2).1
    have hil : i < (ps.map (·.1)).length := (List.getElem?_eq_some_iff.mp e1).1
    have := (List.getElem?_inj hil nd).mp (e1.trans e2.symm)
    omega
  · have e : i = ps.length := by omega
    subst e
    exact .inl ⟨⟨_, SqL.of at1, by rw [List.length_map]; exact Nat.le_refl _⟩, hD H⟩
end
end FB
namespace FB
open PySem PySem.Spec L2
theorem dss_bad {T : List (Addr × Str)} {cv : Nat → Value} {X : Cx} {E : XK} {sts : List Stmt} : DSs T cv X E sts (fun _ => .bad) :=
  ⟨fun _ _ _ => False, ⟨fun pins s σ H D I h => h.elim⟩, fun B r σ F H D rep h => h⟩
section
variable {T : List (Addr × Str)} {cv : Nat → Value} {X : Cx} {E : XK} {e a b c tg iter : Expr} {es : List Expr} {pos : Pos} {fa fb fc : M D} {fs fi : M (List D)} {st : Stmt} {rest body : List Stmt} {f g : M Fl} {tA : M Bool}
theorem rounds_core {ec : Expr} {scope : Scope} {ps p0 p9 : Pos} {j0 : Nat} {own : List (Str × Nat)} {te : M D} {ad : Addr} {H : Hp} {D : Ends} {ns : List Int} {m : Int} {xs : List FB.D} (hfi : fi [.dat (.fz ns), .dat (.int m), .un] = .ok xs [.dat (.fz ns), .dat (.int m), .un]) (hl : xs.length ≤ lim)
    (hte : ∀ x ∈ xs, ∃ c, te [.dat (.fz ns), .dat (.int m), .dat x] = .ok (.int c) [.dat (.fz ns), .dat (.int m), .dat x]) (hA : SqL X.K H ad (ns.map V.int)) (hT : LamX.Tabs T H) (q : ∀ H' p ps, Rnd T H' p ps → D.rt (.ref p) H') (hc : X.calm = true) (hN : X.N.Nodup) (hi : DI T cv X E tg iter fi) (ok : BlkOk X.N X.env.scope scope own) (hv : own.map (·.2) = [2])
    (hg : ∀ (s : Shared) (H : Hp) (C : Addr) (cl : List (Str × Addr)) (fp : List Addr), DG T (X.blk s H scope (compEnvC scope cl C X.env) fp) tg (gN 2) [2])
    (he : ∀ (s : Shared) (H : Hp) (C : Addr) (cl : List (Str × Addr)) (fp : List Addr), DE T cv (X.blk s H scope (compEnvC scope cl C X.env) fp) E0 ec te)
    (hst : ∀ (s : Shared) (H : Hp) (C : Addr) (cl : List (Str × Addr)) (fp : List Addr), starEach [ec, .Constant (.int 0) j0 p0] (X.blk s H scope (compEnvC scope cl C X.env) fp).env = (false, eval ec (X.blk s H scope (compEnvC scope cl C X.env) fp).env) :: starEach [.Constant (.int 0) j0 p0] (X.blk s H scope (compEnvC scope cl C X.env) fp).env)
    (hs : ∀ x, foldedSetIterable iter X.env x = pure x := by intro _; rfl) : ∃ t, PSs X [.Return (some (.ListComp (.List [ec, .Constant (.int 0) j0 p0] ps) [⟨tg, iter, [], 0⟩] scope pos)) p9] t ∧ t D [some (.ref ad), some (.int m), none] H := by
  obtain ⟨t, pt, qt⟩ := pe_rounds (T := T) (cv := cv) (E := E) (ps := ps) (pos := pos) hc hN hi ok hv hg he hst hfi hl hte hs
  exact ⟨_, pss_one (ps_ret pt), qt ad H _ hA hT q⟩
theorem law_body {n di k1 kk : Nat} {σ0 : St} {H0 : Hp} {p1 p2 px p3 p4 p5 p6 : Pos} {x : Str} {D : Ends} {ra : Addr} {rfd : FuncData} {rps : List Str} {kr : Nat} {ad : Addr} {ns : List Int} {mo : Int} (hp : PassesOwn (model X.prog X.w) X.A X.env X.xe) (tk : Tk X E) (hc : X.calm = true)
    (G : FnOk X.prog X.w X.K X.mg X.base (L2N.CX X.prog X.w) kr ra rfd rps (spRounds T X.K)) (hr : Room kr X.A) (hg : Gl X "_law_rounds") (hm : X.mg "_law_rounds" = some (.ref ra)) (hk : PySem.W.keepIn X.K (.ref ra) = true) (hbi : Binds X.K rfd rps [])
    (h0 : X.N[0]? = some ("script" : Str)) (hv0 : Vis X.env.scope "script") (hN : X.N.Nodup) (hi : X.N[di]? = some x) (hx : Loc X.env.scope x) (hb : DSs T cv X E body f) (hn : σ0.length = n) (hdi : di < n) (hσ : σ0[0]? = some (some (.ref ad))) (hA : SqL X.K H0 ad (ns.map V.int)) (hT : LamX.Tabs T H0) (hns : ns.length ≤ 63) (hmo : mo ≤ 1000)
    (hf : ∀ c : Int, ∃ r', f ((List.replicate n Sl.un).set di (.bor [.int c, .int 0])) = .ok .nx r' ∧ r'.length = n) (hD : ∀ H, D.rt (.bl true) H)
    (hs : ∀ x, foldedSetIterable (.Call (.Name "_law_rounds" p3) [.Name "script" p4, .Constant (.int mo) kk p5] [] p6) X.env x = pure x := by intro _; rfl) (hfn : X.fn x = true ∨ X.env.scope.names.lookup x = some .local := by first | exact .inl rfl | exact .inr rfl | assumption)
    (he : starEach [.Name "script" p4, .Constant (.int mo) kk p5] X.env = (false, eval (.Name "script" p4) X.env) :: starEach [.Constant (.int mo) kk p5] X.env := by rfl) (he2 : starEach [.Constant (.int mo) kk p5] X.env = (false, eval (.Constant (.int mo) kk p5) X.env) :: starEach [] X.env := by rfl) (hpl : (backTo p6 (starEach [.Constant (.int mo) kk p5] X.env)).any (·.1) = false := by rfl) :
    ∃ t, PSs X [.For (.Name x px) (.Call (.Name "_law_rounds" p3) [.Name "script" p4, .Constant (.int mo) kk p5] [] p6) body [] pos, .Return (some (.Constant (.bool true) k1 p1)) p2] t ∧ t D σ0 H0 := by
  obtain ⟨t, pt, qt⟩ := law_core (T := T) (cv := cv) (n := n) (di := di) (σ0 := σ0) (H0 := H0) (k1 := k1) (p1 := p1) (p2 := p2) (px := px) (pos := pos) hp hc
    (pe_callS (E := fun _ => E) (pos := p6) (p := p3) G hr hg hm hk hbi (fun σ => L2N.passAt tk σ) (pa_cons (pe_var (pos := p4) h0 hv0 (by decide +kernel) (by decide +kernel)) (pa_cons (pe_int (i := mo)) pa_nil he2) he) (by decide +kernel) he hpl)
    (fun Q h => ⟨.ref ad, hσ, ad, ns, mo, rfl, ⟨hns, hmo⟩, hA, hT, h⟩) hN hi hx hb hn hdi hf hs hfn
  exact ⟨t, pt, qt D hD⟩
end
end FB
/-! What the head tells, as the walk takes it. -/
namespace FB
open PySem PySem.Spec L2
section
variable {K : PySem.W.Frag} {h : Heap} {mg : Str → Option Value} {w : World} {fa : List He.Fa} {fn : List He.DefD}
theorem to_fun {x : Str} {st : Stmt} {f : Addr} {fd : FuncData} (F : FunD K x x (defArgs st) (defBody st) (defScope st) [] [] f fd) : Fun K x x st f fd := by
  obtain ⟨oc, od, dV, kV, doc, pm, an, cdv, ct, osl, e, lk, hcd, dd, _⟩ := F.ex
  have ed : dV = .none := by
    rcases dd with ⟨_, e⟩ | ⟨e, _⟩
    · exact e
    · exact absurd rfl e
  subst ed
  exact ⟨⟨oc, od, kV, doc, pm, an, cdv, ct, osl, e, lk, hcd⟩, F.kp⟩
theorem md_fun (X : K.In h) (G : h.Ns mainGlobals mg) (c : He.SaysD fa fn K) {x : Str} {st : Stmt} {d : He.DefD} (hd : d = ⟨(x, none), x, x, defArgs st, defBody st, defScope st, [], []⟩) (h1 : d ∈ fn) (h2 : He.Fa.glo x ∈ fa) : ∃ f fd, Fun K x x st f fd ∧ mg x = some (.ref f) := by
  subst hd
  obtain ⟨fd, F⟩ := c.defs h1
  exact ⟨He.ga K x, fd, to_fun F, He.glo_ok X G (c.facts h2)⟩
theorem md_fund (X : K.In h) (G : h.Ns mainGlobals mg) (c : He.SaysD fa fn K) {x : Str} {st : Stmt} {d : He.DefD} (hd : d = ⟨(x, none), x, x, defArgs st, defBody st, defScope st, [], []⟩) (h1 : d ∈ fn) (h2 : He.Fa.glo x ∈ fa) : ∃ f fd, FunD K x x (defArgs st) (defBody st) (defScope st) [] [] f fd ∧ mg x = some (.ref f) := by
  subst hd
  obtain ⟨fd, F⟩ := c.defs h1
  exact ⟨He.ga K x, fd, F, He.glo_ok X G (c.facts h2)⟩
theorem md_exc (X : K.In h) (G : h.Ns mainGlobals mg) (c : He.SaysD fa fn K) {x : Str} (h1 : He.Fa.exc x ∈ fa) (h2 : He.Fa.glo x ∈ fa) : ExF K mg x (.ref (He.ga K x)) := by
  obtain ⟨e1, e2, e3, e4⟩ := He.exc_ok (c.facts h1)
  exact ⟨_, rfl, He.glo_ok X G (c.facts h2), e1, e2, e3, e4⟩
theorem md_free (X : K.In h) (G : h.Ns mainGlobals mg) (c : He.SaysD fa fn K) {x : Str} (h1 : He.Fa.free x ∈ fa) : mg x = none := He.free_ok X G (c.facts h1)
def exTab (K : PySem.W.Frag) : Bool := He.valsB K (He.ga K "OTHER") [("#", .str "."), (".", .str "#"), ("*", .str "o"), ("o", .str "*")]
theorem md_tab (X : K.In h) (G : h.Ns mainGlobals mg) {ts : List He.Tab} (c : He.SaysT fa fn ts w K) (ht : ts[0]? = some ((fun K => He.ga K "OTHER", ["#", ".", "*", "o"]) : He.Tab)) (h2 : He.Fa.glo "OTHER" ∈ fa) (hx : exTab K = true) : TabF K w mg := by
  obtain ⟨es, n, D⟩ := c.tab 0 ht
  refine ⟨He.ga K "OTHER", He.glo_ok X G (c.d.facts h2), ?_, ?_, ?_, ?_⟩
  · obtain ⟨u, e, r⟩ := He.valsB_ok hx (q := ("#", .str ".")) (by simp)
    exact ⟨es, n, u, D.at_, D.lit, e, r⟩
  · obtain ⟨u, e, r⟩ := He.valsB_ok hx (q := (".", .str "#")) (by simp)
    exact ⟨es, n, u, D.at_, D.lit, e, r⟩
  · obtain ⟨u, e, r⟩ := He.valsB_ok hx (q := ("*", .str "o")) (by simp)
    exact ⟨es, n, u, D.at_, D.lit, e, r⟩
  · obtain ⟨u, e, r⟩ := He.valsB_ok hx (q := ("o", .str "*")) (by simp)
    exact ⟨es, n, u, D.at_, D.lit, e, r⟩
end
end FB
namespace FB
def B__law_cell : M Fl :=
  sSeq (sIf (tV (e2 opEq (eV 0) (eLst aN))) (sRet (e2 opMul (eV 1) (eC (.int 7919)))) (sNil))
  (sRet (e2 opAdd (e2 opIx (eV 0) (e2 opMod (eV 1) (eB bLen (aC (eV 0) aN)))) (e2 opMul (e2 opFdiv (eV 1) (eB bLen (aC (eV 0) aN))) (eC (.int 104729)))))
def D__law_cell : List D → Ro := runD 2 2 B__law_cell
def FI_rounds : M (List D) := iRange1 (aC (eB bMax (aC (eC (.int 1)) (aC (eB bMin (aC (eV 1) (aC (eB bLen (aC (eV 0) aN)) aN))) aN))) aN)
def TE_rounds : M D := eCall D__law_cell (aC (eV 0) (aC (eV 2) aN))
theorem cell_plain {ns : List Int} (hl : ns.length ≤ 63) (i : Nat) : ∃ c, D__law_cell [.fz ns, .int i] = .ok (.int c) := by
  cases ns with
  | nil =>
    refine ⟨(i : Int) * 7919, ?_⟩
    have h : mulOk (i : Int) 7919 = true := rfl
    simp [D__law_cell, runD, B__law_cell, startE, sSeq, sIf, sNil, sRet, tV, e2, eV, eC, eLst, aN, R.andThen, R.lift, opEq, pyEq, opMul, fin0, h]
  | cons n ns =>
    have hl : ns.length ≤ 62 := by simpa using hl
    have h0 : (0 : Int) < ((ns.length : Int) + 1) := by omega
    have h1 : Nat.log2 (((ns.length : Int) + 1).natAbs) < 9000 := by
      have e : ((ns.length : Int) + 1).natAbs = ns.length + 1 := by omega
      rw [e]
      exact Nat.lt_of_le_of_lt (Nat.log2_le_self _) (by omega)
    have h2 : (0 : Int) ≤ (i : Int) % ((ns.length : Int) + 1) := Int.emod_nonneg _ (by omega)
    have h3 : (i : Int) % ((ns.length : Int) + 1) < (ns.length : Int) + 1 := Int.emod_lt_of_pos _ h0
    obtain ⟨z, hz⟩ : ∃ z, (n :: ns)[((i : Int) % ((ns.length : Int) + 1)).toNat]? = some z := ⟨_, List.getElem?_eq_getElem (by rw [List.length_cons]; omega)⟩
    have h4 : mulOk ((i : Int) / ((ns.length : Int) + 1)) 104729 = true := rfl
    refine ⟨z + (i : Int) / ((ns.length : Int) + 1) * 104729, ?_⟩
    simp [D__law_cell, runD, B__law_cell, startE, sSeq, sIf, sNil, sRet, tV, e2, eV, eC, eLst, eB, aC, aN, R.andThen, R.lift, opEq, pyEq, opMul, opMod, opFdiv, opAdd, opIx, atD, bLen, fin0, h0, h1, h2, h4, hz]
theorem rounds_plain {ns : List Int} {m : Int} (hl : ns.length ≤ 63) (hm : m ≤ 1000) : ∃ xs, FI_rounds [.dat (.fz ns), .dat (.int m), .un] = .ok xs [.dat (.fz ns), .dat (.int m), .un] ∧ xs.length ≤ lim ∧ ∀ x ∈ xs, ∃ c, TE_rounds [.dat (.fz ns), .dat (.int m), .dat x] = .ok (.int c) [.dat (.fz ns), .dat (.int m), .dat x] := by
  have e : ∃ k : Int, k ≤ 1000 ∧ 1 ≤ k ∧ FI_rounds [.dat (.fz ns), .dat (.int m), .un] = .ok ((List.range k.toNat).map fun i => .int (i : Nat)) [.dat (.fz ns), .dat (.int m), .un] := by
    by_cases h : (ns.length : Int) < m
    · by_cases h' : (1 : Int) < (ns.length : Int)
      · exact ⟨ns.length, by omega, by omega, by simp [FI_rounds, iRange1, aC, aN, eB, eC, eV, R.andThen, R.lift, bMax, bMin, bLen, h, h', show (ns.length : Int) ≤ 100000 by omega, show -100000 ≤ (ns.length : Int) by omega]⟩
      · exact ⟨1, by omega, by omega, by simp [FI_rounds, iRange1, aC, aN, eB, eC, eV, R.andThen, R.lift, bMax, bMin, bLen, h, h']⟩
    · by_cases h' : (1 : Int) < m
      · exact ⟨m, by omega, by omega, by simp [FI_rounds, iRange1, aC, aN, eB, eC, eV, R.andThen, R.lift, bMax, bMin, bLen, h, h', show m ≤ 100000 by omega, show -100000 ≤ m by omega]⟩
      · exact ⟨1, by omega, by omega, by simp [FI_rounds, iRange1, aC, aN, eB, eC, eV, R.andThen, R.lift, bMax, bMin, bLen, h, h']⟩
  obtain ⟨k, k1, k2, e⟩ := e
  refine ⟨_, e, by rw [List.length_map, List.length_range]; show k.toNat ≤ 100000; omega, fun x hx => ?_⟩
  obtain ⟨i, _, rfl⟩ := List.mem_map.mp hx
  obtain ⟨c, hc⟩ := cell_plain hl i
  exact ⟨c, by simp [TE_rounds, eCall, aC, aN, eV, R.andThen, hc]⟩
def B_is_row : M Fl :=
  sRet (eAn (e1 (isTy 2) (eV 0)) (eAn (e2 opEq (eB bLen (aC (eV 0) aN)) (eV 1)) (eB bAll (aC (eLc (iS (eV 0)) (gN 2) tY (e2 opInS (eV 2) (eC (.str [35, 46, 42, 111]))) [2]) aN))))
def D_is_row : List D → Ro := runD 2 3 B_is_row
def B_is_board : M Fl :=
  sSeq (sIf (tOr (tNo (tV (e1 (isTy 3) (eV 0)))) (tOr (tNo (tV (eCh opLe opLe (eC (.int 1)) (eB bLen (aC (eV 0) aN)) (eC (.int 4))))) (tNo (tV (e1 (isTy 2) (e2 opIx (eV 0) (eC (.int 0)))))))) (sRet (eC (.bl false))) (sNil))
  (sSeq (sSet 1 (eB bLen (aC (e2 opIx (eV 0) (eC (.int 0))) aN)))
  (sSeq (sIf (tOr (tNo (tV (eCh opLe opLe (eC (.int 1)) (eV 1) (eC (.int 4))))) (tV (e2 opGt (e2 opMul (eV 1) (eB bLen (aC (eV 0) aN))) (eC (.int 12))))) (sRet (eC (.bl false))) (sNil))
  (sRet (eB bAll (aC (eLc (iT (eV 0)) (gN 2) tY (eCall D_is_row (aC (eV 2) (aC (eV 1) aN))) [2]) aN)))))
def D_is_board : List D → Ro := runD 1 3 B_is_board
def B_need_board : M Fl :=
  sIf (tNo (tV (eCall D_is_board (aC (eV 0) aN)))) (sRaise 1) (sNil)
def D_need_board : List D → Ro := runD 1 1 B_need_board
def B_free_cells : M Fl :=
  sSeq (sSet 1 (eLst aN))
  (sSeq (sFor (iEnum (iT (eV 0))) (gT [2, 3]) (sSet 1 (e2 opAdd (eV 1) (eLc (iEnum (iS (eV 3))) (gT [4, 5]) (tV (e2 opInS (eV 5) (eC (.str [35, 46])))) (eTup (aC (eV 2) (aC (eV 4) aN))) [4, 5]))))
  (sRet (eV 1)))
def D_free_cells : List D → Ro := runD 1 6 B_free_cells
def B_ice_at : M Fl :=
  sRet (e2 opInS (e2 opIx (e2 opIx (eV 0) (e2 opIx (eV 1) (eC (.int 0)))) (e2 opIx (eV 1) (eC (.int 1)))) (eC (.str [35, 42])))
def D_ice_at : List D → Ro := runD 2 2 B_ice_at
def B_neighbours : M Fl :=
  sSeq (sAsg (gT [2, 3]) (eV 1))
  (sSeq (sSet 4 (eLst (aC (eTup (aC (e2 opSub (eV 2) (eC (.int 1))) (aC (eV 3) aN))) (aC (eTup (aC (eV 2) (aC (e2 opSub (eV 3) (eC (.int 1))) aN))) (aC (eTup (aC (eV 2) (aC (e2 opAdd (eV 3) (eC (.int 1))) aN))) (aC (eTup (aC (e2 opAdd (eV 2) (eC (.int 1))) (aC (eV 3) aN))) aN))))))
  (sRet (eLc (iL (eV 4)) (gT [5, 6]) (tAn (tV (eCh opLe opLt (eC (.int 0)) (eV 5) (eB bLen (aC (eV 0) aN)))) (tV (eCh opLe opLt (eC (.int 0)) (eV 6) (eB bLen (aC (e2 opIx (eV 0) (eC (.int 0))) aN))))) (eTup (aC (eV 5) (aC (eV 6) aN))) [5, 6])))
def D_neighbours : List D → Ro := runD 2 7 B_neighbours
def B_next_sign : M Fl :=
  sSeq (sSet 3 (e2 opIx (e2 opIx (eV 0) (eV 1)) (eV 2)))
  (sSeq (sIf (tV (e2 opInS (eV 3) (eC (.str [42, 111])))) (sRet (eV 3)) (sNil))
  (sSeq (sSet 4 (eLc (iL (eCall D_neighbours (aC (eV 0) (aC (eTup (aC (eV 1) (aC (eV 2) aN))) aN)))) (gN 6) tY (eCall D_ice_at (aC (eV 0) (aC (eV 6) aN))) [6]))
  (sSeq (sSet 5 (eB bLen (aC (eLc (iL (eV 4)) (gN 7) (tV (eV 7)) (eV 7) [7]) aN)))
  (sRet (eIf (tV (e2 opEq (e2 opMul (eC (.int 2)) (eV 5)) (eB bLen (aC (eV 4) aN)))) (eV 3) (eIf (tV (e2 opGt (e2 opMul (eC (.int 2)) (eV 5)) (eB bLen (aC (eV 4) aN)))) (eC (.str [35])) (eC (.str [46]))))))))
def D_next_sign : List D → Ro := runD 3 8 B_next_sign
def B_ticked : M Fl :=
  sSeq (sSet 1 (eB bLen (aC (e2 opIx (eV 0) (eC (.int 0))) aN)))
  (sRet (eB bTuple (aC (eLc (iRange1 (aC (eB bLen (aC (eV 0) aN)) aN)) (gN 2) tY (e1 (mJoin (.str [])) (eLc (iRange1 (aC (eV 1) aN)) (gN 3) tY (eCall D_next_sign (aC (eV 0) (aC (eV 2) (aC (eV 3) aN)))) [3])) [2]) aN)))
def D_ticked : List D → Ro := runD 1 4 B_ticked
def B_fate_of : M Fl :=
  sSeq (sSet 1 (eC (.int 0)))
  (sWhile (tV (eC (.bl true))) (sSeq (sSet 2 (eCall D_ticked (aC (eV 0) aN)))
    (sSeq (sIf (tV (e2 opEq (eV 2) (eV 0))) (sRet (eTup (aC (eV 1) (aC (eC (.int 1)) aN)))) (sNil))
    (sSeq (sIf (tV (e2 opEq (eCall D_ticked (aC (eV 2) aN)) (eV 0))) (sRet (eTup (aC (eV 1) (aC (eC (.int 2)) aN)))) (sNil))
    (sPar 0 1 (eV 2) (e2 opAdd (eV 1) (eC (.int 1))))))) 1000)
def D_fate_of : List D → Ro := runD 1 3 B_fate_of
def B_never_change : M Fl :=
  sSeq (sExp (eCall D_need_board (aC (eV 0) aN)))
  (sSeq (sAsg (gT [1, 2]) (eTup (aC (eCall D_free_cells (aC (eV 0) aN)) (aC (eV 0) aN))))
  (sSeq (sFor (iRange1 (aC (e2 opAdd (e2 opIx (eCall D_fate_of (aC (eV 0) aN)) (eC (.int 0))) (eC (.int 2))) aN)) (gN 3) (sSeq (sSet 2 (eCall D_ticked (aC (eV 2) aN)))
    (sSet 1 (eLc (iL (eV 1)) (gN 4) (tV (e2 opEq (eCall D_ice_at (aC (eV 2) (aC (eV 4) aN))) (eCall D_ice_at (aC (eV 0) (aC (eV 4) aN))))) (eV 4) [4]))))
  (sRet (eB bTuple (aC (eV 1) aN)))))
def D_never_change : List D → Ro := runD 1 5 B_never_change
def B__law_drawn : M Fl :=
  sSeq (sSet 2 (e2 opMod (e2 opAdd (e2 opMul (eV 0) (eC (.int 6364136223846793005))) (e2 opMul (e2 opAdd (eV 1) (eC (.int 1))) (eC (.int 1442695040888963407)))) (eC (.int 340282366920938463463374607431768211507))))
  (sSeq (sSet 2 (e2 opMod (e2 opMul (eV 2) (eV 2)) (eC (.int 340282366920938463463374607431768211297))))
  (sSeq (sSet 2 (e2 opMul (e2 opMul (e2 opAdd (e2 opMod (eV 2) (eC (.int 18446744073709551557))) (eC (.int 1))) (e2 opAdd (e2 opFdiv (eV 2) (eC (.int 18446744073709551557))) (eC (.int 1)))) (eV 2)))
  (sRet (e2 opMod (eV 2) (eC (.int 340282366920938463463374607431768211507))))))
def D__law_drawn : List D → Ro := runD 2 3 B__law_drawn
def B__law_roll : M Fl :=
  sSeq (sIf (tV (e2 opGe (eIxO 0 (eC (.int 0))) (e2 opPow (eC (.int 10)) (eC (.int 18))))) (sSeq (sSet 2 (e2 opMod (eIxO 0 (eC (.int 0))) (eV 1)))
    (sSeq (sPut 0 0 (e2 opFdiv (eIxO 0 (eC (.int 0))) (eV 1)))
    (sRet (eV 2)))) (sNil))
  (sSeq (sPut 0 1 (e2 opAdd (eIxO 0 (eC (.int 1))) (eC (.int 1))))
  (sRet (e2 opMod (e2 opFdiv (eCall D__law_drawn (aC (eIxO 0 (eC (.int 0))) (aC (eIxO 0 (eC (.int 1))) aN))) (eC (.int 8))) (eV 1))))
def D__law_roll : List D → List D → Rw := runO 2 3 B__law_roll
def B_need_small : M Fl :=
  sIf (tV (e2 opGt (eB bLen (aC (eCall D_free_cells (aC (eV 0) aN)) aN)) (eC (.int 9)))) (sRaise 6) (sNil)
def D_need_small : List D → Ro := runD 1 1 B_need_small
def B_chosen (rec : List D → Ro) : M Fl :=
  sSeq (sIf (tV (e2 opEq (eB bLen (aC (eV 0) aN)) (eV 2))) (sRet (eLst (aC (eV 0) aN))) (sNil))
  (sSeq (sSet 3 (eLst aN))
  (sSeq (sFor (iL (eV 1)) (gN 4) (sIf (tOr (tV (e2 opEq (eV 0) (eTup aN))) (tV (e2 opGt (eV 4) (e2 opIx (eV 0) (e1 opNeg (eC (.int 1))))))) (sSet 3 (e2 opAdd (eV 3) (eCall rec (aC (e2 opAdd (eV 0) (eTup (aC (eV 4) aN))) (aC (eV 1) (aC (eV 2) aN)))))) (sNil)))
  (sRet (eV 3))))
def D_chosen : Nat → List D → Ro
  | 0 => runD 3 5 fun _ => .bad
  | n + 1 => runD 3 5 (B_chosen (D_chosen n))
def B_drawn : M Fl :=
  sSeq (sNewL 2 aN)
  (sSeq (sFor (iEnum (iT (eV 0))) (gT [3, 4]) (sSeq (sSet 5 (eC (.str [])))
    (sSeq (sFor (iEnum (iS (eV 4))) (gT [6, 7]) (sAug opIadd 5 (eIf (tV (e2 opInS (eV 7) (eC (.str [42, 111])))) (eV 7) (eIf (tV (e2 opIn (eTup (aC (eV 3) (aC (eV 6) aN))) (eV 1))) (eC (.str [35])) (eC (.str [46]))))))
    (sApp 2 (eV 5)))))
  (sFrz 2 (sRet (eB bTuple (aC (eV 2) aN)))))
def D_drawn : List D → Ro := runD 2 8 B_drawn
def B_all_ice : M Fl :=
  sRet (eCall D_drawn (aC (eV 0) (aC (eCall D_free_cells (aC (eV 0) aN)) aN)))
def D_all_ice : List D → Ro := runD 1 1 B_all_ice
def B_later : M Fl :=
  sSeq (sFor (iRange1 (aC (eV 1) aN)) (gN 2) (sSet 0 (eCall D_ticked (aC (eV 0) aN))))
  (sRet (eV 0))
def D_later : List D → Ro := runD 2 3 B_later
def B_freezes : M Fl :=
  sSeq (sPar 2 3 (eCall D_drawn (aC (eV 0) (aC (eV 1) aN))) (eCall D_all_ice (aC (eV 0) aN)))
  (sRet (eAn (e2 opEq (eCall D_ticked (aC (eV 3) aN)) (eV 3)) (e2 opEq (eCall D_later (aC (eV 2) (aC (e2 opIx (eCall D_fate_of (aC (eV 2) aN)) (eC (.int 0))) aN))) (eV 3))))
def D_freezes : List D → Ro := runD 2 4 B_freezes
def B_fewest_freezing : M Fl :=
  sSeq (sExp (eCall D_need_board (aC (eV 0) aN)))
  (sSeq (sExp (eCall D_need_small (aC (eV 0) aN)))
  (sSeq (sSet 1 (eCall D_free_cells (aC (eV 0) aN)))
  (sSeq (sFor (iRange1 (aC (e2 opAdd (eB bLen (aC (eV 1) aN)) (eC (.int 1))) aN)) (gN 2) (sFor (iL (eCall (D_chosen 12) (aC (eTup aN) (aC (eV 1) (aC (eV 2) aN))))) (gN 3) (sIf (tV (eCall D_freezes (aC (eV 0) (aC (eV 3) aN)))) (sRet (eV 3)) (sNil))))
  (sRet (eC .non)))))
def D_fewest_freezing : List D → Ro := runD 1 4 B_fewest_freezing
def B_is_still : M Fl :=
  sSeq (sExp (eCall D_need_board (aC (eV 0) aN)))
  (sRet (e2 opEq (eCall D_ticked (aC (eV 0) aN)) (eV 0)))
def D_is_still : List D → Ro := runD 1 1 B_is_still
def B_step : M Fl :=
  sSeq (sExp (eCall D_need_board (aC (eV 0) aN)))
  (sRet (eCall D_ticked (aC (eV 0) aN)))
def D_step : List D → Ro := runD 1 1 B_step
def B_fate : M Fl :=
  sSeq (sExp (eCall D_need_board (aC (eV 0) aN)))
  (sRet (eCall D_fate_of (aC (eV 0) aN)))
def D_fate : List D → Ro := runD 1 1 B_fate
def B_exchanged : M Fl :=
  sSeq (sExp (eCall D_need_board (aC (eV 0) aN)))
  (sRet (eB bTuple (aC (eLc (iT (eV 0)) (gN 1) tY (e1 (mJoin (.str [])) (eLc (iS (eV 1)) (gN 2) tY (e1 tabO (eV 2)) [2])) [1]) aN)))
def D_exchanged : List D → Ro := runD 1 3 B_exchanged
def B_tension : M Fl :=
  sSeq (sExp (eCall D_need_board (aC (eV 0) aN)))
  (sSeq (sPar 1 2 (eCall D_ticked (aC (eV 0) aN)) (eC (.int 0)))
  (sSeq (sFor (iRange1 (aC (eB bLen (aC (eV 0) aN)) aN)) (gN 3) (sFor (iRange1 (aC (eB bLen (aC (e2 opIx (eV 0) (eC (.int 0))) aN)) aN)) (gN 4) (sSeq (sSet 5 (eCall D_ice_at (aC (eV 1) (aC (eTup (aC (eV 3) (aC (eV 4) aN))) aN))))
      (sAug opIadd 2 (eB bLen (aC (eLc (iL (eCall D_neighbours (aC (eV 0) (aC (eTup (aC (eV 3) (aC (eV 4) aN))) aN)))) (gN 6) (tV (e2 opNe (eCall D_ice_at (aC (eV 0) (aC (eV 6) aN))) (eV 5))) (eV 6) [6]) aN))))))
  (sRet (eV 2))))
def D_tension : List D → Ro := runD 1 7 B_tension
def S_law_0 : M Fl :=
  sSet 2 (e2 opAdd (eC (.int 1)) (eCallO D__law_roll 1 (aC (eC (.int 4)) aN)))
def S_law_1 : M Fl :=
  sSet 3 (eTup (aC (e1 (mJoin (.str [])) (eLc (iRange1 (aC (eV 2) aN)) (gN 6) tY (e2 opIx (eC (.str [35, 46])) (eCallO D__law_roll 1 (aC (eC (.int 2)) aN))) [6])) aN))
def S_law_2 : M Fl :=
  sSet 4 (e2 opIx (eV 3) (eC (.int 0)))
def S_law_3 : M Fl :=
  sSet 5 (eCall D_never_change (aC (eV 3) aN))
def S_law_4 : M Fl :=
  sFor (iRange2 (aC (eC (.int 1)) (aC (e2 opSub (eV 2) (eC (.int 2))) aN))) (gN 6) (sIf (tV (e2 opEq (e2 opIx (eV 4) (eV 6)) (e2 opIx (eV 4) (e2 opAdd (eV 6) (eC (.int 1)))))) (sIf (tOr (tV (e2 opNotIn (eTup (aC (eC (.int 0)) (aC (eV 6) aN))) (eV 5))) (tV (e2 opNotIn (eTup (aC (eC (.int 0)) (aC (e2 opAdd (eV 6) (eC (.int 1))) aN))) (eV 5)))) (sRet (eC (.bl false))) (sNil)) (sNil))
def S_law_5 : M Fl :=
  sIf (tAn (tV (e2 opEq (eV 2) (eC (.int 1)))) (tNo (tV (eCall D_is_still (aC (eV 3) aN))))) (sRet (eC (.bl false))) (sNil)
def S_law_6 : M Fl :=
  sIf (tAn (tV (e2 opEq (eV 2) (eC (.int 2)))) (tV (e2 opNe (eCall D_step (aC (eV 3) aN)) (eTup (aC (e1 opRevSL (eV 4)) aN))))) (sRet (eC (.bl false))) (sNil)
def S_law_7 : M Fl :=
  sIf (tV (e2 opGt (eV 2) (eC (.int 2)))) (sSeq (sSet 7 (e2 opIx (eCall D_step (aC (eV 3) aN)) (eC (.int 0))))
    (sIf (tOr (tV (e2 opNe (e2 opIx (eV 7) (eC (.int 0))) (e2 opIx (eV 4) (eC (.int 1))))) (tV (e2 opNe (e2 opIx (eV 7) (e1 opNeg (eC (.int 1)))) (e2 opIx (eV 4) (e1 opNeg (eC (.int 2))))))) (sRet (eC (.bl false))) (sNil))) (sNil)
def S_law_8 : M Fl :=
  sSet 8 (eTup (aC (eSl (eC (.str [35, 46, 35, 46])) gNo (gSo (eV 2))) aN))
def S_law_9 : M Fl :=
  sIf (tAn (tV (e2 opGt (eV 2) (eC (.int 1)))) (tOr (tV (e2 opNe (eCall D_fate (aC (eV 8) aN)) (eTup (aC (eC (.int 0)) (aC (eC (.int 2)) aN))))) (tV (e2 opNe (eCall D_step (aC (eV 8) aN)) (eCall D_exchanged (aC (eV 8) aN)))))) (sRet (eC (.bl false))) (sNil)
def S_law_10 : M Fl :=
  sIf (tOr (tV (e2 opGt (e2 opIx (eCall D_fate (aC (eV 3) aN)) (eC (.int 0))) (eV 2))) (tAn (tV (e2 opGt (eV 2) (eC (.int 1)))) (tV (e2 opNe (eCall D_tension (aC (eV 8) aN)) (eC (.int 0)))))) (sRet (eC (.bl false))) (sNil)
def S_law_11 : M Fl :=
  sSet 9 (e2 opIx (eLst (aC (eTup (aC (eTup (aC (eC (.int 0)) (aC (eC (.int 0)) aN))) aN)) (aC (eTup (aC (eTup (aC (eC (.int 0)) (aC (eC (.int 0)) aN))) (aC (eTup (aC (eC (.int 0)) (aC (eC (.int 1)) aN))) aN))) (aC (eTup (aC (eTup (aC (eC (.int 0)) (aC (eC (.int 0)) aN))) (aC (eTup (aC (eC (.int 0)) (aC (eC (.int 1)) aN))) aN))) (aC (eTup (aC (eTup (aC (eC (.int 0)) (aC (eC (.int 1)) aN))) (aC (eTup (aC (eC (.int 0)) (aC (eC (.int 2)) aN))) aN))) aN))))) (e2 opSub (eV 2) (eC (.int 1))))
def S_law_12 : M Fl :=
  sIf (tV (e2 opNe (eCall D_fewest_freezing (aC (eTup (aC (e2 opMul (eC (.str [46])) (eV 2)) aN)) aN)) (eV 9))) (sRet (eC (.bl false))) (sNil)
def T_law_12 : M Fl := S_law_12
def T_law_11 : M Fl := sSeq S_law_11 T_law_12
def T_law_10 : M Fl := sSeq S_law_10 T_law_11
def T_law_9 : M Fl := sSeq S_law_9 T_law_10
def T_law_8 : M Fl := sSeq S_law_8 T_law_9
def T_law_7 : M Fl := sSeq S_law_7 T_law_8
def T_law_6 : M Fl := sSeq S_law_6 T_law_7
def T_law_5 : M Fl := sSeq S_law_5 T_law_6
def T_law_4 : M Fl := sSeq S_law_4 T_law_5
def T_law_3 : M Fl := sSeq S_law_3 T_law_4
def T_law_2 : M Fl := sSeq S_law_2 T_law_3
def T_law_1 : M Fl := sSeq S_law_1 T_law_2
def T_law_0 : M Fl := sSeq S_law_0 T_law_1
def B_law : M Fl := T_law_0
end FB
namespace FB
theorem opMul_int {i j : Int} (h : mulOk i j = true) : opMul (.int i) (.int j) = some (.int (i * j)) := if_pos h
theorem opMod_int {i j : Int} (h : 0 < j) : opMod (.int i) (.int j) = some (.int (i % j)) := if_pos h
theorem opFdiv_int {i j : Int} (h : 0 < j ∧ j.natAbs.log2 < 9000) : opFdiv (.int i) (.int j) = some (.int (i / j)) := if_pos h
theorem mulOk_of {i j : Int} (hi : i.natAbs < 2 ^ 400) (hj : j.natAbs < 2 ^ 400) : mulOk i j = true := by
  unfold mulOk
  rw [Bool.or_eq_true, Bool.or_eq_true]
  refine .inr (.inr (Nat.ble_eq_true_of_le ?_))
  have l : ∀ n : Nat, n < 2 ^ 400 → n.log2 ≤ 400 := fun n hn => by
    by_cases h0 : n = 0
    · subst h0
      exact Nat.zero_le _
    · exact Nat.le_of_lt ((Nat.log2_lt h0).mpr hn)
  have := l _ hi
  have := l _ hj
  omega
theorem drawn_plain (c k : Int) : ∃ v : Int, D__law_drawn [.int c, .int k] = .ok (.int v) ∧ 0 ≤ v := by
  obtain ⟨m1, e1, a1, b1⟩ : ∃ m, m = (c * 6364136223846793005 + (k + 1) * 1442695040888963407) % 340282366920938463463374607431768211507 ∧ 0 ≤ m ∧ m < 340282366920938463463374607431768211507 := ⟨_, rfl, Int.emod_nonneg _ (by decide), Int.emod_lt_of_pos _ (by decide)⟩
  obtain ⟨m2, e2', a2, b2⟩ : ∃ m, m = m1 * m1 % 340282366920938463463374607431768211297 ∧ 0 ≤ m ∧ m < 340282366920938463463374607431768211297 := ⟨_, rfl, Int.emod_nonneg _ (by decide), Int.emod_lt_of_pos _ (by decide)⟩
  have hp : (2 : Nat) ^ 400 = 2582249878086908589655919172003011874329705792829223512830659356540647622016841194629645353280137831435903171972747493376 := by decide
  have g1 : mulOk m1 m1 = true := mulOk_of (by omega) (by omega)
  have q1 : 0 ≤ m2 % 18446744073709551557 := Int.emod_nonneg _ (by decide)
  have q2 : m2 % 18446744073709551557 < 18446744073709551557 := Int.emod_lt_of_pos _ (by decide)
  have q3 : 0 ≤ m2 / 18446744073709551557 := Int.ediv_nonneg a2 (by decide)
  have q4 : m2 / 18446744073709551557 ≤ m2 := Int.ediv_le_self _ a2
  have g2 : mulOk (m2 % 18446744073709551557 + 1) (m2 / 18446744073709551557 + 1) = true := mulOk_of (by omega) (by omega)
  have g3 : mulOk ((m2 % 18446744073709551557 + 1) * (m2 / 18446744073709551557 + 1)) m2 = true := by
    refine mulOk_of ?_ (by omega)
    rw [Int.natAbs_mul]
    have h1 : (m2 % 18446744073709551557 + 1).natAbs < 2 ^ 65 := by omega
    have h2 : (m2 / 18446744073709551557 + 1).natAbs < 2 ^ 130 := by omega
    exact Nat.lt_of_lt_of_le (Nat.mul_lt_mul'' h1 h2) (by decide)
  have G1 : ∀ x, opMul (.int x) (.int 6364136223846793005) = some (.int (x * 6364136223846793005)) := fun x => opMul_int rfl
  have G2 : ∀ x, opMul (.int x) (.int 1442695040888963407) = some (.int (x * 1442695040888963407)) := fun x => opMul_int rfl
  have M1 : ∀ x, opMod (.int x) (.int 340282366920938463463374607431768211507) = some (.int (x % 340282366920938463463374607431768211507)) := fun x => opMod_int (by decide)
  have M2 : ∀ x, opMod (.int x) (.int 340282366920938463463374607431768211297) = some (.int (x % 340282366920938463463374607431768211297)) := fun x => opMod_int (by decide)
  have M3 : ∀ x, opMod (.int x) (.int 18446744073709551557) = some (.int (x % 18446744073709551557)) := fun x => opMod_int (by decide)
  have F1 : ∀ x, opFdiv (.int x) (.int 18446744073709551557) = some (.int (x / 18446744073709551557)) := fun x => opFdiv_int (by decide)
  have A1 : ∀ x y, opAdd (.int x) (.int y) = some (.int (x + y)) := fun x y => rfl
  refine ⟨(m2 % 18446744073709551557 + 1) * (m2 / 18446744073709551557 + 1) * m2 % 340282366920938463463374607431768211507, ?_, Int.emod_nonneg _ (by decide)⟩
  have t1 := opMul_int g1
  have t2 := opMul_int g2
  have t3 := opMul_int g3
  subst e1
  subst e2'
  simp [D__law_drawn, runD, B__law_drawn, startE, sSeq, sSet, sRet, e2, eV, eC, R.andThen, R.lift, G1, G2, M1, M2, M3, F1, A1, fin0, t1, t2, t3]
theorem roll_plain (c k many : Int) (h1 : 1 ≤ many) (h2 : many ≤ 1000) : ∃ v c' k' : Int, D__law_roll [.int c, .int k] [.int many] = .ok (.int v) [.int c', .int k'] ∧ 0 ≤ v ∧ v < many := by
  have M1 : ∀ x, opMod (.int x) (.int many) = some (.int (x % many)) := fun x => opMod_int (by omega)
  have F1 : ∀ x, opFdiv (.int x) (.int many) = some (.int (x / many)) := fun x => opFdiv_int ⟨by omega, by
    refine Nat.lt_of_le_of_lt (Nat.log2_le_self _) (by omega)⟩
  have F2 : ∀ x, opFdiv (.int x) (.int 8) = some (.int (x / 8)) := fun x => opFdiv_int (by decide)
  have P1 : opPow (.int 10) (.int 18) = some (.int 1000000000000000000) := rfl
  have A1 : ∀ x y, opAdd (.int x) (.int y) = some (.int (x + y)) := fun x y => rfl
  by_cases h : (1000000000000000000 : Int) ≤ c
  · have G1 : opGe (.int c) (.int 1000000000000000000) = some (.bl true) := by
      show some (D.bl (decide _)) = _
      rw [decide_eq_true h]
    refine ⟨c % many, c / many, k, ?_, Int.emod_nonneg _ (by omega), Int.emod_lt_of_pos _ (by omega)⟩
    simp [D__law_roll, runO, B__law_roll, startE, sSeq, sSet, sRet, sIf, sPut, sNil, tV, e2, eV, eC, eIxO, notOwn, atD, R.andThen, R.lift, G1, M1, F1, P1, finO]
  · have G1 : opGe (.int c) (.int 1000000000000000000) = some (.bl false) := by
      show some (D.bl (decide _)) = _
      rw [decide_eq_false h]
    obtain ⟨v, e, hv⟩ := drawn_plain c (k + 1)
    refine ⟨v / 8 % many, c, k + 1, ?_, Int.emod_nonneg _ (by omega), Int.emod_lt_of_pos _ (by omega)⟩
    simp [D__law_roll, runO, B__law_roll, startE, sSeq, sSet, sRet, sIf, sPut, sNil, tV, e2, eV, eC, eIxO, eCall, aC, aN, notOwn, atD, R.andThen, R.lift, G1, M1, F1, F2, P1, A1, finO, e]
/-! ### runs, step by step -/
section
variable {r r1 r2 r3 : En} {a b c : M D} {as : M (List D)} {x y z : D} {xs ys : List D} {f : D → D → Option D} {g : D → Option D} {h : List D → Option D} {t u : M Bool} {p q : Bool} {st su : M Fl} {fl : Fl}
theorem e1_ok (ha : a r = .ok x r1) (hf : g x = some y) : e1 g a r = .ok y r1 := by
  unfold e1
  rw [ha]
  show R.lift (g x) r1 = _
  rw [hf]
  rfl
theorem aC_ok (ha : a r = .ok x r1) (hb : as r1 = .ok xs r2) : aC a as r = .ok (x :: xs) r2 := by
  unfold aC
  rw [ha]
  show (as r1).andThen _ = _
  rw [hb]
  rfl
theorem aN_ok : aN r = .ok [] r := rfl
theorem tup_ok (ha : as r = .ok xs r1) : eTup as r = .ok (.tup xs) r1 := by
  unfold eTup
  rw [ha]
  rfl
theorem set_ok {i : Nat} (ha : a r = .ok x r1) : sSet i a r = .ok .nx (r1.set i (.dat x)) := by
  unfold sSet
  rw [ha]
  rfl
theorem seq_ok {w : R Fl} (ha : st r = .ok .nx r1) (hb : su r1 = w) : sSeq st su r = w := by
  unfold sSeq
  rw [ha]
  exact hb
end
def okNx (n : Nat) : R Fl → Bool
  | .ok .nx r => r.length == n
  | _ => false
theorem okNx_ok {n : Nat} {x : R Fl} (h : okNx n x = true) : ∃ r', x = .ok .nx r' ∧ r'.length = n := by
  unfold okNx at h
  split at h
  · exact ⟨_, rfl, by simpa using h⟩
  · cases h
end FB
namespace FB
def envA (c k : Int) (s b : Sl) : En := [.un, .bor [.int c, .int k], s, b, .un, .un, .un, .un, .un, .un]
theorem rolls17 (sz : Int) : ∀ (xs acc : List D) (c k : Int), ∃ (ws : List D) (c' k' : Int), ws.length = xs.length ∧ (∀ w ∈ ws, w = .str [35] ∨ w = .str [46]) ∧
    lcGo (gN 6) tY (e2 opIx (eC (.str [35, 46])) (eCallO D__law_roll 1 (aC (eC (.int 2)) aN))) [6] xs acc (envA c k (.dat (.int sz)) .un) = .ok (acc ++ ws) (envA c' k' (.dat (.int sz)) .un)
  | [], acc, c, k => ⟨[], c, k, rfl, by simp, by simp [lcGo]⟩
  | x :: xs, acc, c, k => by
    obtain ⟨v, c1, k1, e, h0, h1⟩ := roll_plain c k 2 (by decide) (by decide)
    have hv : v = 0 ∨ v = 1 := by omega
    obtain ⟨w, hw, ew⟩ : ∃ w, (w = D.str [35] ∨ w = D.str [46]) ∧ opIx (.str [35, 46]) (.int v) = some w := by
      rcases hv with rfl | rfl
      · exact ⟨.str [35], .inl rfl, rfl⟩
      · exact ⟨.str [46], .inr rfl, rfl⟩
    obtain ⟨ws, c2, k2, l1, l2, l3⟩ := rolls17 sz xs (acc ++ [w]) c1 k1
    refine ⟨w :: ws, c2, k2, by simp [l1], ?_, ?_⟩
    · intro y hy
      rcases List.mem_cons.mp hy with rfl | hy
      · exact hw
      · exact l2 y hy
    · rw [List.append_cons, ← l3]
      simp [lcGo, gN, envA, tY, e2, eC, eCallO, aC, aN, R.andThen, R.lift, e, ew, wipeE]
theorem c17_i (c k : Int) : okNx 10 (T_law_2 (envA c k (.dat (.int 1)) (.dat (.tup [.str [35]])))) = true := by kernel_rfl
theorem c17_w (c k : Int) : okNx 10 (T_law_2 (envA c k (.dat (.int 1)) (.dat (.tup [.str [46]])))) = true := by kernel_rfl
theorem c17_ii (c k : Int) : okNx 10 (T_law_2 (envA c k (.dat (.int 2)) (.dat (.tup [.str [35, 35]])))) = true := by kernel_rfl
theorem c17_iw (c k : Int) : okNx 10 (T_law_2 (envA c k (.dat (.int 2)) (.dat (.tup [.str [35, 46]])))) = true := by kernel_rfl
theorem c17_wi (c k : Int) : okNx 10 (T_law_2 (envA c k (.dat (.int 2)) (.dat (.tup [.str [46, 35]])))) = true := by kernel_rfl
theorem c17_ww (c k : Int) : okNx 10 (T_law_2 (envA c k (.dat (.int 2)) (.dat (.tup [.str [46, 46]])))) = true := by kernel_rfl
theorem c17_iii (c k : Int) : okNx 10 (T_law_2 (envA c k (.dat (.int 3)) (.dat (.tup [.str [35, 35, 35]])))) = true := by kernel_rfl
theorem c17_iiw (c k : Int) : okNx 10 (T_law_2 (envA c k (.dat (.int 3)) (.dat (.tup [.str [35, 35, 46]])))) = true := by kernel_rfl
theorem c17_iwi (c k : Int) : okNx 10 (T_law_2 (envA c k (.dat (.int 3)) (.dat (.tup [.str [35, 46, 35]])))) = true := by kernel_rfl
theorem c17_iww (c k : Int) : okNx 10 (T_law_2 (envA c k (.dat (.int 3)) (.dat (.tup [.str [35, 46, 46]])))) = true := by kernel_rfl
theorem c17_wii (c k : Int) : okNx 10 (T_law_2 (envA c k (.dat (.int 3)) (.dat (.tup [.str [46, 35, 35]])))) = true := by kernel_rfl
theorem c17_wiw (c k : Int) : okNx 10 (T_law_2 (envA c k (.dat (.int 3)) (.dat (.tup [.str [46, 35, 46]])))) = true := by kernel_rfl
theorem c17_wwi (c k : Int) : okNx 10 (T_law_2 (envA c k (.dat (.int 3)) (.dat (.tup [.str [46, 46, 35]])))) = true := by kernel_rfl
theorem c17_www (c k : Int) : okNx 10 (T_law_2 (envA c k (.dat (.int 3)) (.dat (.tup [.str [46, 46, 46]])))) = true := by kernel_rfl
theorem c17_iiii (c k : Int) : okNx 10 (T_law_2 (envA c k (.dat (.int 4)) (.dat (.tup [.str [35, 35, 35, 35]])))) = true := by kernel_rfl
theorem c17_iiiw (c k : Int) : okNx 10 (T_law_2 (envA c k (.dat (.int 4)) (.dat (.tup [.str [35, 35, 35, 46]])))) = true := by kernel_rfl
theorem c17_iiwi (c k : Int) : okNx 10 (T_law_2 (envA c k (.dat (.int 4)) (.dat (.tup [.str [35, 35, 46, 35]])))) = true := by kernel_rfl
theorem c17_iiww (c k : Int) : okNx 10 (T_law_2 (envA c k (.dat (.int 4)) (.dat (.tup [.str [35, 35, 46, 46]])))) = true := by kernel_rfl
theorem c17_iwii (c k : Int) : okNx 10 (T_law_2 (envA c k (.dat (.int 4)) (.dat (.tup [.str [35, 46, 35, 35]])))) = true := by kernel_rfl
theorem c17_iwiw (c k : Int) : okNx 10 (T_law_2 (envA c k (.dat (.int 4)) (.dat (.tup [.str [35, 46, 35, 46]])))) = true := by kernel_rfl
theorem c17_iwwi (c k : Int) : okNx 10 (T_law_2 (envA c k (.dat (.int 4)) (.dat (.tup [.str [35, 46, 46, 35]])))) = true := by kernel_rfl
theorem c17_iwww (c k : Int) : okNx 10 (T_law_2 (envA c k (.dat (.int 4)) (.dat (.tup [.str [35, 46, 46, 46]])))) = true := by kernel_rfl
theorem c17_wiii (c k : Int) : okNx 10 (T_law_2 (envA c k (.dat (.int 4)) (.dat (.tup [.str [46, 35, 35, 35]])))) = true := by kernel_rfl
theorem c17_wiiw (c k : Int) : okNx 10 (T_law_2 (envA c k (.dat (.int 4)) (.dat (.tup [.str [46, 35, 35, 46]])))) = true := by kernel_rfl
theorem c17_wiwi (c k : Int) : okNx 10 (T_law_2 (envA c k (.dat (.int 4)) (.dat (.tup [.str [46, 35, 46, 35]])))) = true := by kernel_rfl
theorem c17_wiww (c k : Int) : okNx 10 (T_law_2 (envA c k (.dat (.int 4)) (.dat (.tup [.str [46, 35, 46, 46]])))) = true := by kernel_rfl
theorem c17_wwii (c k : Int) : okNx 10 (T_law_2 (envA c k (.dat (.int 4)) (.dat (.tup [.str [46, 46, 35, 35]])))) = true := by kernel_rfl
theorem c17_wwiw (c k : Int) : okNx 10 (T_law_2 (envA c k (.dat (.int 4)) (.dat (.tup [.str [46, 46, 35, 46]])))) = true := by kernel_rfl
theorem c17_wwwi (c k : Int) : okNx 10 (T_law_2 (envA c k (.dat (.int 4)) (.dat (.tup [.str [46, 46, 46, 35]])))) = true := by kernel_rfl
theorem c17_wwww (c k : Int) : okNx 10 (T_law_2 (envA c k (.dat (.int 4)) (.dat (.tup [.str [46, 46, 46, 46]])))) = true := by kernel_rfl
theorem law_plain (c : Int) : ∃ r', B_law ((List.replicate 10 Sl.un).set 1 (.bor [.int c, .int 0])) = .ok .nx r' ∧ r'.length = 10 := by
  have e0 : ((List.replicate 10 Sl.un).set 1 (.bor [.int c, .int 0])) = envA c 0 .un .un := rfl
  rw [e0]
  obtain ⟨v, c1, k1, e, h0, h1⟩ := roll_plain c 0 4 (by decide) (by decide)
  have s0 : S_law_0 (envA c 0 .un .un) = .ok .nx (envA c1 k1 (.dat (.int (1 + v))) .un) := by
    simp [S_law_0, sSet, envA, e2, eC, eCallO, aC, aN, R.andThen, R.lift, e, opAdd]
  obtain ⟨ws, c2, k2, l1, l2, l3⟩ := rolls17 (1 + v) ((List.range (1 + v).toNat).map fun i => .int (i : Nat)) [] c1 k1
  rw [List.nil_append] at l3
  have key : ∀ (w : List Nat), mJoin (.str []) (.lst ws) = some (.str w) → S_law_1 (envA c1 k1 (.dat (.int (1 + v))) .un) = .ok .nx (envA c2 k2 (.dat (.int (1 + v))) (.dat (.tup [.str w]))) := fun w hw => by
    have z : eLc (iRange1 (aC (eV 2) aN)) (gN 6) tY (e2 opIx (eC (.str [35, 46])) (eCallO D__law_roll 1 (aC (eC (.int 2)) aN))) [6] (envA c1 k1 (.dat (.int (1 + v))) .un) = .ok (.lst ws) (envA c2 k2 (.dat (.int (1 + v))) .un) := by
      have i1 : iRange1 (aC (eV 2) aN) (envA c1 k1 (.dat (.int (1 + v))) .un) = .ok ((List.range (1 + v).toNat).map fun i => .int (i : Nat)) (envA c1 k1 (.dat (.int (1 + v))) .un) := by
        have : (1 + v ≤ 100000 ∧ -100000 ≤ 1 + v) := by omega
        simp [iRange1, aC, aN, eV, envA, R.andThen, this]
      have i2 : wipeE [6] (envA c1 k1 (.dat (.int (1 + v))) .un) = envA c1 k1 (.dat (.int (1 + v))) .un := rfl
      have i3 : ([6].all fun i => notOwn ((envA c1 k1 (.dat (.int (1 + v))) .un)[i]?)) = true ∧ ((List.range (1 + v).toNat).map fun i => D.int (i : Nat)).length ≤ lim := ⟨rfl, by
        rw [List.length_map, List.length_range]
        show _ ≤ 100000
        omega⟩
      unfold eLc
      rw [i1]
      show (if _ then _ else _) = _
      rw [if_pos i3, i2, l3]
      rfl
    exact set_ok (tup_ok (aC_ok (e1_ok z hw) aN_ok))
  have fin : ∀ (sz : Int) (w : List Nat), 1 + v = sz → mJoin (.str []) (.lst ws) = some (.str w) → okNx 10 (T_law_2 (envA c2 k2 (.dat (.int sz)) (.dat (.tup [.str w])))) = true → ∃ r', B_law (envA c 0 .un .un) = .ok .nx r' ∧ r'.length = 10 := fun sz w hsz hw ok => by
    subst hsz
    have this : B_law (envA c 0 .un .un) = T_law_2 (envA c2 k2 (.dat (.int (1 + v))) (.dat (.tup [.str w]))) := by
      unfold B_law T_law_0 T_law_1
      exact seq_ok s0 (seq_ok (key w hw) (Eq.refl _))
    rw [this]
    exact okNx_ok ok
  have hv : v = 0 ∨ v = 1 ∨ v = 2 ∨ v = 3 := by omega
  rcases hv with rfl | rfl | rfl | rfl
  · match ws, l1, l2 with
    | [a], _, l2 =>
      rcases l2 a (by simp) with rfl | rfl
      · exact fin 1 [35] (by decide) rfl (c17_i c2 k2)
      · exact fin 1 [46] (by decide) rfl (c17_w c2 k2)
  · match ws, l1, l2 with
    | [a, b], _, l2 =>
      rcases l2 a (by simp) with rfl | rfl
      · rcases l2 b (by simp) with rfl | rfl
        · exact fin 2 [35, 35] (by decide) rfl (c17_ii c2 k2)
        · exact fin 2 [35, 46] (by decide) rfl (c17_iw c2 k2)
      · rcases l2 b (by simp) with rfl | rfl
        · exact fin 2 [46, 35] (by decide) rfl (c17_wi c2 k2)
        · exact fin 2 [46, 46] (by decide) rfl (c17_ww c2 k2)
  · match ws, l1, l2 with
    | [a, b, d], _, l2 =>
      rcases l2 a (by simp) with rfl | rfl
      · rcases l2 b (by simp) with rfl | rfl
        · rcases l2 d (by simp) with rfl | rfl
          · exact fin 3 [35, 35, 35] (by decide) rfl (c17_iii c2 k2)
          · exact fin 3 [35, 35, 46] (by decide) rfl (c17_iiw c2 k2)
        · rcases l2 d (by simp) with rfl | rfl
          · exact fin 3 [35, 46, 35] (by decide) rfl (c17_iwi c2 k2)
          · exact fin 3 [35, 46, 46] (by decide) rfl (c17_iww c2 k2)
      · rcases l2 b (by simp) with rfl | rfl
        · rcases l2 d (by simp) with rfl | rfl
          · exact fin 3 [46, 35, 35] (by decide) rfl (c17_wii c2 k2)
          · exact fin 3 [46, 35, 46] (by decide) rfl (c17_wiw c2 k2)
        · rcases l2 d (by simp) with rfl | rfl
          · exact fin 3 [46, 46, 35] (by decide) rfl (c17_wwi c2 k2)
          · exact fin 3 [46, 46, 46] (by decide) rfl (c17_www c2 k2)
  · match ws, l1, l2 with
    | [a, b, d, e], _, l2 =>
      rcases l2 a (by simp) with rfl | rfl
      · rcases l2 b (by simp) with rfl | rfl
        · rcases l2 d (by simp) with rfl | rfl
          · rcases l2 e (by simp) with rfl | rfl
            · exact fin 4 [35, 35, 35, 35] (by decide) rfl (c17_iiii c2 k2)
            · exact fin 4 [35, 35, 35, 46] (by decide) rfl (c17_iiiw c2 k2)
          · rcases l2 e (by simp) with rfl | rfl
            · exact fin 4 [35, 35, 46, 35] (by decide) rfl (c17_iiwi c2 k2)
            · exact fin 4 [35, 35, 46, 46] (by decide) rfl (c17_iiww c2 k2)
        · rcases l2 d (by simp) with rfl | rfl
          · rcases l2 e (by simp) with rfl | rfl
            · exact fin 4 [35, 46, 35, 35] (by decide) rfl (c17_iwii c2 k2)
            · exact fin 4 [35, 46, 35, 46] (by decide) rfl (c17_iwiw c2 k2)
          · rcases l2 e (by simp) with rfl | rfl
            · exact fin 4 [35, 46, 46, 35] (by decide) rfl (c17_iwwi c2 k2)
            · exact fin 4 [35, 46, 46, 46] (by decide) rfl (c17_iwww c2 k2)
      · rcases l2 b (by simp) with rfl | rfl
        · rcases l2 d (by simp) with rfl | rfl
          · rcases l2 e (by simp) with rfl | rfl
            · exact fin 4 [46, 35, 35, 35] (by decide) rfl (c17_wiii c2 k2)
            · exact fin 4 [46, 35, 35, 46] (by decide) rfl (c17_wiiw c2 k2)
          · rcases l2 e (by simp) with rfl | rfl
            · exact fin 4 [46, 35, 46, 35] (by decide) rfl (c17_wiwi c2 k2)
            · exact fin 4 [46, 35, 46, 46] (by decide) rfl (c17_wiww c2 k2)
        · rcases l2 d (by simp) with rfl | rfl
          · rcases l2 e (by simp) with rfl | rfl
            · exact fin 4 [46, 46, 35, 35] (by decide) rfl (c17_wwii c2 k2)
            · exact fin 4 [46, 46, 35, 46] (by decide) rfl (c17_wwiw c2 k2)
          · rcases l2 e (by simp) with rfl | rfl
            · exact fin 4 [46, 46, 46, 35] (by decide) rfl (c17_wwwi c2 k2)
            · exact fin 4 [46, 46, 46, 46] (by decide) rfl (c17_wwww c2 k2)
end FB
namespace FB
open PySem PySem.Spec L2
def top (i : Nat) : Stmt := PySem.Challenge.pw_frostboard_k17_whole_rows.main.body.getD i (.Pass ⟨0, 0, 0, 0⟩)
def cvK (K : PySem.W.Frag) : Nat → Value
  | 0 => .ref (He.ga K "FrostError")
  | 1 => .ref (He.ga K "InvalidBoard")
  | 6 => .ref (He.ga K "TooLarge")
  | _ => .none
structure Md (K : PySem.W.Frag) (mg : Str → Option Value) (w : World) : Prop where
  tab : TabF K w mg
  m_ValueError : mg "ValueError" = none
  m_all : mg "all" = none
  m_enumerate : mg "enumerate" = none
  m_isinstance : mg "isinstance" = none
  m_len : mg "len" = none
  m_max : mg "max" = none
  m_min : mg "min" = none
  m_range : mg "range" = none
  m_str : mg "str" = none
  m_tuple : mg "tuple" = none
  x_FrostError : ExF K mg "FrostError" (cvK K 0)
  x_InvalidBoard : ExF K mg "InvalidBoard" (cvK K 1)
  x_TooLarge : ExF K mg "TooLarge" (cvK K 6)
  f__law_cell : ∃ f fd, Fun K "_law_cell" "_law_cell" (top 31) f fd ∧ mg "_law_cell" = some (.ref f)
  f__law_rounds : ∃ f fd, Fun K "_law_rounds" "_law_rounds" (top 34) f fd ∧ mg "_law_rounds" = some (.ref f)
  f_is_row : ∃ f fd, Fun K "is_row" "is_row" (top 6) f fd ∧ mg "is_row" = some (.ref f)
  f_is_board : ∃ f fd, Fun K "is_board" "is_board" (top 7) f fd ∧ mg "is_board" = some (.ref f)
  f_need_board : ∃ f fd, Fun K "need_board" "need_board" (top 8) f fd ∧ mg "need_board" = some (.ref f)
  f_free_cells : ∃ f fd, Fun K "free_cells" "free_cells" (top 9) f fd ∧ mg "free_cells" = some (.ref f)
  f_ice_at : ∃ f fd, Fun K "ice_at" "ice_at" (top 10) f fd ∧ mg "ice_at" = some (.ref f)
  f_neighbours : ∃ f fd, Fun K "neighbours" "neighbours" (top 15) f fd ∧ mg "neighbours" = some (.ref f)
  f_next_sign : ∃ f fd, Fun K "next_sign" "next_sign" (top 16) f fd ∧ mg "next_sign" = some (.ref f)
  f_ticked : ∃ f fd, Fun K "ticked" "ticked" (top 17) f fd ∧ mg "ticked" = some (.ref f)
  f_fate_of : ∃ f fd, Fun K "fate_of" "fate_of" (top 20) f fd ∧ mg "fate_of" = some (.ref f)
  f_never_change : ∃ f fd, Fun K "never_change" "never_change" (top 24) f fd ∧ mg "never_change" = some (.ref f)
  f__law_drawn : ∃ f fd, Fun K "_law_drawn" "_law_drawn" (top 32) f fd ∧ mg "_law_drawn" = some (.ref f)
  f__law_roll : ∃ f fd, Fun K "_law_roll" "_law_roll" (top 33) f fd ∧ mg "_law_roll" = some (.ref f)
  f_need_small : ∃ f fd, Fun K "need_small" "need_small" (top 13) f fd ∧ mg "need_small" = some (.ref f)
  f_chosen : ∃ f fd, Fun K "chosen" "chosen" (top 28) f fd ∧ mg "chosen" = some (.ref f)
  f_drawn : ∃ f fd, Fun K "drawn" "drawn" (top 12) f fd ∧ mg "drawn" = some (.ref f)
  f_all_ice : ∃ f fd, Fun K "all_ice" "all_ice" (top 26) f fd ∧ mg "all_ice" = some (.ref f)
  f_later : ∃ f fd, Fun K "later" "later" (top 19) f fd ∧ mg "later" = some (.ref f)
  f_freezes : ∃ f fd, Fun K "freezes" "freezes" (top 27) f fd ∧ mg "freezes" = some (.ref f)
  f_fewest_freezing : ∃ f fd, Fun K "fewest_freezing" "fewest_freezing" (top 29) f fd ∧ mg "fewest_freezing" = some (.ref f)
  f_is_still : ∃ f fd, Fun K "is_still" "is_still" (top 22) f fd ∧ mg "is_still" = some (.ref f)
  f_step : ∃ f fd, Fun K "step" "step" (top 18) f fd ∧ mg "step" = some (.ref f)
  f_fate : ∃ f fd, Fun K "fate" "fate" (top 21) f fd ∧ mg "fate" = some (.ref f)
  f_exchanged : ∃ f fd, Fun K "exchanged" "exchanged" (top 11) f fd ∧ mg "exchanged" = some (.ref f)
  f_tension : ∃ f fd, Fun K "tension" "tension" (top 23) f fd ∧ mg "tension" = some (.ref f)
theorem tx0 : Tx (Str.ofString "#.*o") [35, 46, 42, 111] := ⟨by decide +kernel, by decide +kernel, by decide +kernel⟩
theorem tx1 : Tx (Str.ofString "#.") [35, 46] := ⟨by decide +kernel, by decide +kernel, by decide +kernel⟩
theorem tx2 : Tx (Str.ofString "#*") [35, 42] := ⟨by decide +kernel, by decide +kernel, by decide +kernel⟩
theorem tx3 : Tx (Str.ofString "*o") [42, 111] := ⟨by decide +kernel, by decide +kernel, by decide +kernel⟩
theorem tx4 : Tx (Str.ofString "#") [35] := ⟨by decide +kernel, by decide +kernel, by decide +kernel⟩
theorem tx5 : Tx (Str.ofString ".") [46] := ⟨by decide +kernel, by decide +kernel, by decide +kernel⟩
theorem tx6 : Tx (Str.ofString "") [] := ⟨by decide +kernel, by decide +kernel, by decide +kernel⟩
theorem tx7 : Tx (Str.ofString "#.#.") [35, 46, 35, 46] := ⟨by decide +kernel, by decide +kernel, by decide +kernel⟩
section
variable {P : Program} {w : World} {K : PySem.W.Frag} {mg : Str → Option Value} {base : Heap} {T : List (Addr × Str)}
theorem sc__law_cell : FnScope ["script", "k"] ["script", "k"] (defScope (top 31)) := ⟨rfl, rfl, rfl, by decide +kernel, rfl, by decide +kernel, by decide +kernel⟩
theorem ok__law_cell (M : Md K mg w) : Has P w K mg base T (cvK K) 1 "_law_cell" 2 D__law_cell := by
  obtain ⟨f, fd, F, hm⟩ := M.f__law_cell
  refine fn_d F hm (F.binds fun _ _ _ _ _ _ us hl => match us, hl with | [_, _], _ => rfl) sc__law_cell rfl (by decide) fun cdv A outer s H E hr => ?_
  have nd := sc__law_cell.nd
  have tk : Tk (cxOf (L2N.CX P w) P w K mg base ["script", "k"] "_law_cell" (defScope (top 31)) f cdv A outer s H E) E := L2N.takes_of rfl rfl rfl rfl
  have pw : PassesOwn (model P w) (cxOf (L2N.CX P w) P w K mg base ["script", "k"] "_law_cell" (defScope (top 31)) f cdv A outer s H E).A (cxOf (L2N.CX P w) P w K mg base ["script", "k"] "_law_cell" (defScope (top 31)) f cdv A outer s H E).env (cxOf (L2N.CX P w) P w K mg base ["script", "k"] "_law_cell" (defScope (top 31)) f cdv A outer s H E).xe := L2.passes_of rfl
  exact dss_cons (ds_if (dt_cmp (op_eqD hr.units) p_eq (nomark _) (de_v 0) (de_lst da_nil (Ln.le ln_nil))) (dss_one (ds_ret (de_bin o_mul p_mul (de_v 1) de_int))) (dss_nil))
    (dss_one (ds_ret (de_bin o_add p_add (de_ix (de_v 0) (de_bin op_mod p_mod (de_v 1) (de_callB o_len p_len (by rfl) M.m_len PySem.boot_len (da_cons (de_v 0) da_nil))) ix_seq p_ix (fun _ _ => rfl)) (de_bin o_mul p_mul (de_bin op_fdivW p_fdiv (de_v 1) (de_callB o_len p_len (by rfl) M.m_len PySem.boot_len (da_cons (de_v 0) da_nil))) de_int))))
theorem sc__law_rounds : FnScope ["script", "most", "k"] ["script", "most"] (defScope (top 34)) := ⟨rfl, rfl, rfl, by decide +kernel, rfl, by decide +kernel, by decide +kernel⟩
theorem ok__law_rounds (M : Md K mg w) : ∃ (a : Addr) (fd : FuncData) (ps : List Str), mg "_law_rounds" = some (.ref a) ∧ PySem.W.keepIn K (.ref a) = true ∧ Binds K fd ps [] ∧ FnOk P w K mg base (L2N.CX P w) 2 a fd ps (spRounds T K) := by
  obtain ⟨f, fd, F, hm⟩ := M.f__law_rounds
  refine ⟨f, fd, _, hm, F.kp, (F.binds fun _ _ _ _ _ _ us hl => match us, hl with | [_, _], _ => rfl), Fun.okN F sc__law_rounds (fun vs H Q E h => ?_) fun cdv A outer s H vs Q E hr h => ?_⟩
  · obtain ⟨a, ns, m, e, _⟩ := h
    rw [e]
    rfl
  · obtain ⟨a, ns, m, e, hb, hA, hT, q⟩ := h
    subst e
    have nd := sc__law_rounds.nd
    have tk : Tk (cxOf (L2N.CX P w) P w K mg base ["script", "most", "k"] "_law_rounds" (defScope (top 34)) f cdv A outer s H E) E := L2N.takes_of rfl rfl rfl rfl
    have pw : PassesOwn (model P w) (cxOf (L2N.CX P w) P w K mg base ["script", "most", "k"] "_law_rounds" (defScope (top 34)) f cdv A outer s H E).A (cxOf (L2N.CX P w) P w K mg base ["script", "most", "k"] "_law_rounds" (defScope (top 34)) f cdv A outer s H E).env (cxOf (L2N.CX P w) P w K mg base ["script", "most", "k"] "_law_rounds" (defScope (top 34)) f cdv A outer s H E).xe := L2.passes_of rfl
    obtain ⟨xs, hx1, hx2, hx3⟩ := rounds_plain hb.1 hb.2
    exact rounds_core (T := T) (cv := cvK K) (E := E) (fi := FI_rounds) (te := TE_rounds) (own := [("k", 2)]) hx1 hx2 hx3 hA hT q rfl nd (di_r1 (by rfl) M.m_range (da_cons (de_callB (call_max2 rfl) p_max (by rfl) M.m_max (by decide +kernel) (da_cons de_int (da_cons (de_callB (call_min2 rfl) p_min (by rfl) M.m_min (by decide +kernel) (da_cons (de_v 1) (da_cons (de_callB o_len p_len (by rfl) M.m_len PySem.boot_len (da_cons (de_v 0) da_nil)) da_nil))) da_nil))) da_nil)) (blkOk_by (by kernel_rfl)) rfl (fun _ _ _ _ _ => dg_n (i := 2) nd rfl (by first | exact Or.inl rfl | exact Or.inr rfl)) (fun _ _ _ _ _ => de_call tk0 (ok__law_cell M) (hr.mono (by decide)) (by rfl) (da_cons (de_v 0) (da_cons (de_v 2) da_nil)) (ln_cons (ln_cons ln_nil))) (fun _ _ _ _ _ => rfl)
theorem sc_is_row : FnScope ["value", "size", "sign"] ["value", "size"] (defScope (top 6)) := ⟨rfl, rfl, rfl, by decide +kernel, rfl, by decide +kernel, by decide +kernel⟩
theorem ok_is_row (M : Md K mg w) : Has P w K mg base T (cvK K) 1 "is_row" 2 D_is_row := by
  obtain ⟨f, fd, F, hm⟩ := M.f_is_row
  refine fn_d F hm (F.binds fun _ _ _ _ _ _ us hl => match us, hl with | [_, _], _ => rfl) sc_is_row rfl (by decide) fun cdv A outer s H E hr => ?_
  have nd := sc_is_row.nd
  have tk : Tk (cxOf (L2N.CX P w) P w K mg base ["value", "size", "sign"] "is_row" (defScope (top 6)) f cdv A outer s H E) E := L2N.takes_of rfl rfl rfl rfl
  have pw : PassesOwn (model P w) (cxOf (L2N.CX P w) P w K mg base ["value", "size", "sign"] "is_row" (defScope (top 6)) f cdv A outer s H E).A (cxOf (L2N.CX P w) P w K mg base ["value", "size", "sign"] "is_row" (defScope (top 6)) f cdv A outer s H E).env (cxOf (L2N.CX P w) P w K mg base ["value", "size", "sign"] "is_row" (defScope (top 6)) f cdv A outer s H E).xe := L2.passes_of rfl
  exact dss_one (ds_ret (de_and (de_isi (t := 2) (by decide) (by rfl) M.m_isinstance (by rfl) M.m_str (by decide +kernel) (de_v 0)) (de_and (de_cmp (op_eqD hr.units) p_eq (nomark _) (de_callB o_len p_len (by rfl) M.m_len PySem.boot_len (da_cons (de_v 0) da_nil)) (de_v 1)) (de_one (de_callB (cr_all rfl) p_all (by rfl) M.m_all (by decide +kernel) (da_cons (de_lc (own := [("sign", 2)]) rfl nd (di_s (de_v 0)) (blkOk_by (by kernel_rfl)) (fun _ _ _ _ _ => dg_n (i := 2) nd rfl (by first | exact Or.inl rfl | exact Or.inr rfl)) (fun _ _ _ _ _ => dts_nil) (fun _ _ _ _ _ => de_cmp op_in_sign p_inS rfl (de_v 2) (de_str tx0))) da_nil))))))
theorem sc_is_board : FnScope ["value", "size", "one"] ["value"] (defScope (top 7)) := ⟨rfl, rfl, rfl, by decide +kernel, rfl, by decide +kernel, by decide +kernel⟩
theorem ok_is_board (M : Md K mg w) : Has P w K mg base T (cvK K) 2 "is_board" 1 D_is_board := by
  obtain ⟨f, fd, F, hm⟩ := M.f_is_board
  refine fn_d F hm (F.binds fun _ _ _ _ _ _ us hl => match us, hl with | [_], _ => rfl) sc_is_board rfl (by decide) fun cdv A outer s H E hr => ?_
  have nd := sc_is_board.nd
  have tk : Tk (cxOf (L2N.CX P w) P w K mg base ["value", "size", "one"] "is_board" (defScope (top 7)) f cdv A outer s H E) E := L2N.takes_of rfl rfl rfl rfl
  have pw : PassesOwn (model P w) (cxOf (L2N.CX P w) P w K mg base ["value", "size", "one"] "is_board" (defScope (top 7)) f cdv A outer s H E).A (cxOf (L2N.CX P w) P w K mg base ["value", "size", "one"] "is_board" (defScope (top 7)) f cdv A outer s H E).env (cxOf (L2N.CX P w) P w K mg base ["value", "size", "one"] "is_board" (defScope (top 7)) f cdv A outer s H E).xe := L2.passes_of rfl
  exact dss_cons (ds_if (DW.t (dw_or (dt_not (dt_v (de_isi (t := 3) (by decide) (by rfl) M.m_isinstance (by rfl) M.m_tuple (by decide +kernel) (de_v 0)))) (dw_or (dt_not (dt_chain op_le op_le p_le p_le de_int (de_callB o_len p_len (by rfl) M.m_len PySem.boot_len (da_cons (de_v 0) da_nil)) de_int)) (dw_or1 (dt_not (dt_v (de_isi (t := 2) (by decide) (by rfl) M.m_isinstance (by rfl) M.m_str (by decide +kernel) (de_ix (de_v 0) de_int ix_seq p_ix (fun _ _ => rfl))))))))) (dss_one (ds_ret de_bl)) (dss_nil))
    (dss_cons (ds_set (i := 1) nd rfl (by first | exact Or.inl rfl | exact Or.inr rfl) (de_callB o_len p_len (by rfl) M.m_len PySem.boot_len (da_cons (de_ix (de_v 0) de_int ix_seq p_ix (fun _ _ => rfl)) da_nil)))
    (dss_cons (ds_if (DW.t (dw_or (dt_not (dt_chain op_le op_le p_le p_le de_int (de_v 1) de_int)) (dw_or1 (dt_cmp (o_gt hr.units) p_gt' (nomark _) (de_bin o_mul p_mul (de_v 1) (de_callB o_len p_len (by rfl) M.m_len PySem.boot_len (da_cons (de_v 0) da_nil))) de_int)))) (dss_one (ds_ret de_bl)) (dss_nil))
    (dss_one (ds_ret (de_callB (cr_all rfl) p_all (by rfl) M.m_all (by decide +kernel) (da_cons (de_lc (own := [("one", 2)]) rfl nd (di_t (de_v 0)) (blkOk_by (by kernel_rfl)) (fun _ _ _ _ _ => dg_n (i := 2) nd rfl (by first | exact Or.inl rfl | exact Or.inr rfl)) (fun _ _ _ _ _ => dts_nil) (fun _ _ _ _ _ => de_call tk0 (ok_is_row M) (hr.mono (by decide)) (by rfl) (da_cons (de_v 2) (da_cons (de_v 1) da_nil)) (ln_cons (ln_cons ln_nil)))) da_nil))))))
theorem sc_need_board : FnScope ["board"] ["board"] (defScope (top 8)) := ⟨rfl, rfl, rfl, by decide +kernel, rfl, by decide +kernel, by decide +kernel⟩
theorem ok_need_board (M : Md K mg w) : Has P w K mg base T (cvK K) 3 "need_board" 1 D_need_board := by
  obtain ⟨f, fd, F, hm⟩ := M.f_need_board
  refine fn_d F hm (F.binds fun _ _ _ _ _ _ us hl => match us, hl with | [_], _ => rfl) sc_need_board rfl (by decide) fun cdv A outer s H E hr => ?_
  have nd := sc_need_board.nd
  have tk : Tk (cxOf (L2N.CX P w) P w K mg base ["board"] "need_board" (defScope (top 8)) f cdv A outer s H E) E := L2N.takes_of rfl rfl rfl rfl
  have pw : PassesOwn (model P w) (cxOf (L2N.CX P w) P w K mg base ["board"] "need_board" (defScope (top 8)) f cdv A outer s H E).A (cxOf (L2N.CX P w) P w K mg base ["board"] "need_board" (defScope (top 8)) f cdv A outer s H E).env (cxOf (L2N.CX P w) P w K mg base ["board"] "need_board" (defScope (top 8)) f cdv A outer s H E).xe := L2.passes_of rfl
  exact dss_one (ds_if (dt_not (dt_v (de_call tk (ok_is_board M) (hr.mono (by decide)) (by rfl) (da_cons (de_v 0) da_nil) (ln_cons ln_nil)))) (dss_one (ds_raise (cn := 1) rfl tk (pm_own M.x_InvalidBoard (by rfl)))) (dss_nil))
theorem sc_free_cells : FnScope ["board", "found", "number", "signs", "column", "sign"] ["board"] (defScope (top 9)) := ⟨rfl, rfl, rfl, by decide +kernel, rfl, by decide +kernel, by decide +kernel⟩
theorem ok_free_cells (M : Md K mg w) : Has P w K mg base T (cvK K) 1 "free_cells" 1 D_free_cells := by
  obtain ⟨f, fd, F, hm⟩ := M.f_free_cells
  refine fn_d F hm (F.binds fun _ _ _ _ _ _ us hl => match us, hl with | [_], _ => rfl) sc_free_cells rfl (by decide) fun cdv A outer s H E hr => ?_
  have nd := sc_free_cells.nd
  have tk : Tk (cxOf (L2N.CX P w) P w K mg base ["board", "found", "number", "signs", "column", "sign"] "free_cells" (defScope (top 9)) f cdv A outer s H E) E := L2N.takes_of rfl rfl rfl rfl
  have pw : PassesOwn (model P w) (cxOf (L2N.CX P w) P w K mg base ["board", "found", "number", "signs", "column", "sign"] "free_cells" (defScope (top 9)) f cdv A outer s H E).A (cxOf (L2N.CX P w) P w K mg base ["board", "found", "number", "signs", "column", "sign"] "free_cells" (defScope (top 9)) f cdv A outer s H E).env (cxOf (L2N.CX P w) P w K mg base ["board", "found", "number", "signs", "column", "sign"] "free_cells" (defScope (top 9)) f cdv A outer s H E).xe := L2.passes_of rfl
  exact dss_cons (ds_set (i := 1) nd rfl (by first | exact Or.inl rfl | exact Or.inr rfl) (de_lst da_nil (Ln.le ln_nil)))
    (dss_cons (ds_for pw rfl (di_enT (by rfl) M.m_enumerate (de_v 0)) (dg_t rfl (dgs_cons (i := 2) nd rfl (by first | exact Or.inl rfl | exact Or.inr rfl) (dgs_cons (i := 3) nd rfl (by first | exact Or.inl rfl | exact Or.inr rfl) (dgs_nil)))) (dss_one (ds_set (i := 1) nd rfl (by first | exact Or.inl rfl | exact Or.inr rfl) (de_bin o_add p_add (de_v 1) (de_lc (own := [("column", 4), ("sign", 5)]) rfl nd (di_enS (by rfl) M.m_enumerate (de_v 3)) (blkOk_by (by kernel_rfl)) (fun _ _ _ _ _ => dg_t rfl (dgs_cons (i := 4) nd rfl (by first | exact Or.inl rfl | exact Or.inr rfl) (dgs_cons (i := 5) nd rfl (by first | exact Or.inl rfl | exact Or.inr rfl) (dgs_nil)))) (fun _ _ _ _ _ => dts_one (dt_cmp op_in_sign p_inS rfl (de_v 5) (de_str tx1))) (fun _ _ _ _ _ => de_tup (da_cons (de_v 2) (da_cons (de_v 4) da_nil)) (Ln.le (ln_cons (ln_cons ln_nil)))))))))
    (dss_one (ds_ret (de_v 1))))
theorem sc_ice_at : FnScope ["board", "cell"] ["board", "cell"] (defScope (top 10)) := ⟨rfl, rfl, rfl, by decide +kernel, rfl, by decide +kernel, by decide +kernel⟩
theorem ok_ice_at (M : Md K mg w) : Has P w K mg base T (cvK K) 1 "ice_at" 2 D_ice_at := by
  obtain ⟨f, fd, F, hm⟩ := M.f_ice_at
  refine fn_d F hm (F.binds fun _ _ _ _ _ _ us hl => match us, hl with | [_, _], _ => rfl) sc_ice_at rfl (by decide) fun cdv A outer s H E hr => ?_
  have nd := sc_ice_at.nd
  have tk : Tk (cxOf (L2N.CX P w) P w K mg base ["board", "cell"] "ice_at" (defScope (top 10)) f cdv A outer s H E) E := L2N.takes_of rfl rfl rfl rfl
  have pw : PassesOwn (model P w) (cxOf (L2N.CX P w) P w K mg base ["board", "cell"] "ice_at" (defScope (top 10)) f cdv A outer s H E).A (cxOf (L2N.CX P w) P w K mg base ["board", "cell"] "ice_at" (defScope (top 10)) f cdv A outer s H E).env (cxOf (L2N.CX P w) P w K mg base ["board", "cell"] "ice_at" (defScope (top 10)) f cdv A outer s H E).xe := L2.passes_of rfl
  exact dss_one (ds_ret (de_cmp op_in_sign p_inS rfl (de_ix (de_ix (de_v 0) (de_ix (de_v 1) de_int ix_seq p_ix (fun _ _ => rfl)) ix_seq p_ix (fun _ _ => rfl)) (de_ix (de_v 1) de_int ix_seq p_ix (fun _ _ => rfl)) ix_seq p_ix (fun _ _ => rfl)) (de_str tx2)))
theorem sc_neighbours : FnScope ["board", "cell", "row", "column", "some", "one", "other"] ["board", "cell"] (defScope (top 15)) := ⟨rfl, rfl, rfl, by decide +kernel, rfl, by decide +kernel, by decide +kernel⟩
theorem ok_neighbours (M : Md K mg w) : Has P w K mg base T (cvK K) 1 "neighbours" 2 D_neighbours := by
  obtain ⟨f, fd, F, hm⟩ := M.f_neighbours
  refine fn_d F hm (F.binds fun _ _ _ _ _ _ us hl => match us, hl with | [_, _], _ => rfl) sc_neighbours rfl (by decide) fun cdv A outer s H E hr => ?_
  have nd := sc_neighbours.nd
  have tk : Tk (cxOf (L2N.CX P w) P w K mg base ["board", "cell", "row", "column", "some", "one", "other"] "neighbours" (defScope (top 15)) f cdv A outer s H E) E := L2N.takes_of rfl rfl rfl rfl
  have pw : PassesOwn (model P w) (cxOf (L2N.CX P w) P w K mg base ["board", "cell", "row", "column", "some", "one", "other"] "neighbours" (defScope (top 15)) f cdv A outer s H E).A (cxOf (L2N.CX P w) P w K mg base ["board", "cell", "row", "column", "some", "one", "other"] "neighbours" (defScope (top 15)) f cdv A outer s H E).env (cxOf (L2N.CX P w) P w K mg base ["board", "cell", "row", "column", "some", "one", "other"] "neighbours" (defScope (top 15)) f cdv A outer s H E).xe := L2.passes_of rfl
  exact dss_cons (ds_asg (de_v 1) (dg_t rfl (dgs_cons (i := 2) nd rfl (by first | exact Or.inl rfl | exact Or.inr rfl) (dgs_cons (i := 3) nd rfl (by first | exact Or.inl rfl | exact Or.inr rfl) (dgs_nil)))))
    (dss_cons (ds_set (i := 4) nd rfl (by first | exact Or.inl rfl | exact Or.inr rfl) (de_lst (da_cons (de_tup (da_cons (de_bin op_sub p_sub (de_v 2) de_int) (da_cons (de_v 3) da_nil)) (Ln.le (ln_cons (ln_cons ln_nil)))) (da_cons (de_tup (da_cons (de_v 2) (da_cons (de_bin op_sub p_sub (de_v 3) de_int) da_nil)) (Ln.le (ln_cons (ln_cons ln_nil)))) (da_cons (de_tup (da_cons (de_v 2) (da_cons (de_bin o_add p_add (de_v 3) de_int) da_nil)) (Ln.le (ln_cons (ln_cons ln_nil)))) (da_cons (de_tup (da_cons (de_bin o_add p_add (de_v 2) de_int) (da_cons (de_v 3) da_nil)) (Ln.le (ln_cons (ln_cons ln_nil)))) da_nil)))) (Ln.le (ln_cons (ln_cons (ln_cons (ln_cons ln_nil)))))))
    (dss_one (ds_ret (de_lc (own := [("one", 5), ("other", 6)]) rfl nd (di_l (de_v 4)) (blkOk_by (by kernel_rfl)) (fun _ _ _ _ _ => dg_t rfl (dgs_cons (i := 5) nd rfl (by first | exact Or.inl rfl | exact Or.inr rfl) (dgs_cons (i := 6) nd rfl (by first | exact Or.inl rfl | exact Or.inr rfl) (dgs_nil)))) (fun _ _ _ _ _ => dts_one (DW.t (dw_and (dt_chain op_le (o_lt hr.units) p_le p_lt' de_int (de_v 5) (de_callB o_len p_len (by rfl) M.m_len PySem.boot_len (da_cons (de_v 0) da_nil))) (dw_and1 (dt_chain op_le (o_lt hr.units) p_le p_lt' de_int (de_v 6) (de_callB o_len p_len (by rfl) M.m_len PySem.boot_len (da_cons (de_ix (de_v 0) de_int ix_seq p_ix (fun _ _ => rfl)) da_nil))))))) (fun _ _ _ _ _ => de_tup (da_cons (de_v 5) (da_cons (de_v 6) da_nil)) (Ln.le (ln_cons (ln_cons ln_nil))))))))
theorem sc_next_sign : FnScope ["board", "row", "column", "sign", "some", "ice", "cell", "one"] ["board", "row", "column"] (defScope (top 16)) := ⟨rfl, rfl, rfl, by decide +kernel, rfl, by decide +kernel, by decide +kernel⟩
theorem ok_next_sign (M : Md K mg w) : Has P w K mg base T (cvK K) 2 "next_sign" 3 D_next_sign := by
  obtain ⟨f, fd, F, hm⟩ := M.f_next_sign
  refine fn_d F hm (F.binds fun _ _ _ _ _ _ us hl => match us, hl with | [_, _, _], _ => rfl) sc_next_sign rfl (by decide) fun cdv A outer s H E hr => ?_
  have nd := sc_next_sign.nd
  have tk : Tk (cxOf (L2N.CX P w) P w K mg base ["board", "row", "column", "sign", "some", "ice", "cell", "one"] "next_sign" (defScope (top 16)) f cdv A outer s H E) E := L2N.takes_of rfl rfl rfl rfl
  have pw : PassesOwn (model P w) (cxOf (L2N.CX P w) P w K mg base ["board", "row", "column", "sign", "some", "ice", "cell", "one"] "next_sign" (defScope (top 16)) f cdv A outer s H E).A (cxOf (L2N.CX P w) P w K mg base ["board", "row", "column", "sign", "some", "ice", "cell", "one"] "next_sign" (defScope (top 16)) f cdv A outer s H E).env (cxOf (L2N.CX P w) P w K mg base ["board", "row", "column", "sign", "some", "ice", "cell", "one"] "next_sign" (defScope (top 16)) f cdv A outer s H E).xe := L2.passes_of rfl
  exact dss_cons (ds_set (i := 3) nd rfl (by first | exact Or.inl rfl | exact Or.inr rfl) (de_ix (de_ix (de_v 0) (de_v 1) ix_seq p_ix (fun _ _ => rfl)) (de_v 2) ix_seq p_ix (fun _ _ => rfl)))
    (dss_cons (ds_if (dt_cmp op_in_sign p_inS rfl (de_v 3) (de_str tx3)) (dss_one (ds_ret (de_v 3))) (dss_nil))
    (dss_cons (ds_setLc (i := 4) (own := [("cell", 6)]) rfl nd rfl rfl (sw_true rfl rfl rfl (by decide +kernel)) (di_l (de_call tk (ok_neighbours M) (hr.mono (by decide)) (by rfl) (da_cons (de_v 0) (da_cons (de_tup (da_cons (de_v 1) (da_cons (de_v 2) da_nil)) (Ln.le (ln_cons (ln_cons ln_nil)))) da_nil)) (ln_cons (ln_cons ln_nil)))) (blkOk_by (by kernel_rfl)) (fun _ _ _ _ _ => dg_n (i := 6) nd rfl (by first | exact Or.inl rfl | exact Or.inr rfl)) (fun _ _ _ _ _ => dts_nil) (fun _ _ _ _ _ => de_call tk0 (ok_ice_at M) (hr.mono (by decide)) (by rfl) (da_cons (de_v 0) (da_cons (de_v 6) da_nil)) (ln_cons (ln_cons ln_nil))))
    (dss_cons (ds_set (i := 5) nd rfl (by first | exact Or.inl rfl | exact Or.inr rfl) (de_callB o_len p_len (by rfl) M.m_len PySem.boot_len (da_cons (de_lc (own := [("one", 7)]) rfl nd (di_l (de_v 4)) (blkOk_by (by kernel_rfl)) (fun _ _ _ _ _ => dg_n (i := 7) nd rfl (by first | exact Or.inl rfl | exact Or.inr rfl)) (fun _ _ _ _ _ => dts_one (dt_v (de_v 7))) (fun _ _ _ _ _ => de_v 7)) da_nil)))
    (dss_one (ds_ret (de_ifE (dt_cmp (op_eqD hr.units) p_eq (nomark _) (de_bin o_mul p_mul de_int (de_v 5)) (de_callB o_len p_len (by rfl) M.m_len PySem.boot_len (da_cons (de_v 4) da_nil))) (de_v 3) (de_ifE (dt_cmp (o_gt hr.units) p_gt' (nomark _) (de_bin o_mul p_mul de_int (de_v 5)) (de_callB o_len p_len (by rfl) M.m_len PySem.boot_len (da_cons (de_v 4) da_nil))) (de_str tx4) (de_str tx5))))))))
theorem sc_ticked : FnScope ["board", "size", "row", "column"] ["board"] (defScope (top 17)) := ⟨rfl, rfl, rfl, by decide +kernel, rfl, by decide +kernel, by decide +kernel⟩
theorem ok_ticked (M : Md K mg w) : Has P w K mg base T (cvK K) 3 "ticked" 1 D_ticked := by
  obtain ⟨f, fd, F, hm⟩ := M.f_ticked
  refine fn_d F hm (F.binds fun _ _ _ _ _ _ us hl => match us, hl with | [_], _ => rfl) sc_ticked rfl (by decide) fun cdv A outer s H E hr => ?_
  have nd := sc_ticked.nd
  have tk : Tk (cxOf (L2N.CX P w) P w K mg base ["board", "size", "row", "column"] "ticked" (defScope (top 17)) f cdv A outer s H E) E := L2N.takes_of rfl rfl rfl rfl
  have pw : PassesOwn (model P w) (cxOf (L2N.CX P w) P w K mg base ["board", "size", "row", "column"] "ticked" (defScope (top 17)) f cdv A outer s H E).A (cxOf (L2N.CX P w) P w K mg base ["board", "size", "row", "column"] "ticked" (defScope (top 17)) f cdv A outer s H E).env (cxOf (L2N.CX P w) P w K mg base ["board", "size", "row", "column"] "ticked" (defScope (top 17)) f cdv A outer s H E).xe := L2.passes_of rfl
  exact dss_cons (ds_set (i := 1) nd rfl (by first | exact Or.inl rfl | exact Or.inr rfl) (de_callB o_len p_len (by rfl) M.m_len PySem.boot_len (da_cons (de_ix (de_v 0) de_int ix_seq p_ix (fun _ _ => rfl)) da_nil)))
    (dss_one (ds_ret (de_callTy call_tuple_of p_tuple (by rfl) M.m_tuple PyProof.Rows.boot_tuple (da_cons (de_lc (own := [("row", 2)]) rfl nd (di_r1 (by rfl) M.m_range (da_cons (de_callB o_len p_len (by rfl) M.m_len PySem.boot_len (da_cons (de_v 0) da_nil)) da_nil)) (blkOk_by (by kernel_rfl)) (fun _ _ _ _ _ => dg_n (i := 2) nd rfl (by first | exact Or.inl rfl | exact Or.inr rfl)) (fun _ _ _ _ _ => dts_nil) (fun _ _ _ _ _ => de_join tx6 (de_lc (own := [("column", 3)]) rfl nd (di_r1 (by rfl) M.m_range (da_cons (de_v 1) da_nil)) (blkOk_by (by kernel_rfl)) (fun _ _ _ _ _ => dg_n (i := 3) nd rfl (by first | exact Or.inl rfl | exact Or.inr rfl)) (fun _ _ _ _ _ => dts_nil) (fun _ _ _ _ _ => de_call tk0 (ok_next_sign M) (hr.mono (by decide)) (by rfl) (da_cons (de_v 0) (da_cons (de_v 2) (da_cons (de_v 3) da_nil))) (ln_cons (ln_cons (ln_cons ln_nil))))))) da_nil))))
theorem sc_fate_of : FnScope ["board", "ticks", "one"] ["board"] (defScope (top 20)) := ⟨rfl, rfl, rfl, by decide +kernel, rfl, by decide +kernel, by decide +kernel⟩
theorem ok_fate_of (M : Md K mg w) : Has P w K mg base T (cvK K) 4 "fate_of" 1 D_fate_of := by
  obtain ⟨f, fd, F, hm⟩ := M.f_fate_of
  refine fn_d F hm (F.binds fun _ _ _ _ _ _ us hl => match us, hl with | [_], _ => rfl) sc_fate_of rfl (by decide) fun cdv A outer s H E hr => ?_
  have nd := sc_fate_of.nd
  have tk : Tk (cxOf (L2N.CX P w) P w K mg base ["board", "ticks", "one"] "fate_of" (defScope (top 20)) f cdv A outer s H E) E := L2N.takes_of rfl rfl rfl rfl
  have pw : PassesOwn (model P w) (cxOf (L2N.CX P w) P w K mg base ["board", "ticks", "one"] "fate_of" (defScope (top 20)) f cdv A outer s H E).A (cxOf (L2N.CX P w) P w K mg base ["board", "ticks", "one"] "fate_of" (defScope (top 20)) f cdv A outer s H E).env (cxOf (L2N.CX P w) P w K mg base ["board", "ticks", "one"] "fate_of" (defScope (top 20)) f cdv A outer s H E).xe := L2.passes_of rfl
  exact dss_cons (ds_set (i := 1) nd rfl (by first | exact Or.inl rfl | exact Or.inr rfl) de_int)
    (dss_one (ds_while 1000 pw (dt_v de_bl) (dss_cons (ds_set (i := 2) nd rfl (by first | exact Or.inl rfl | exact Or.inr rfl) (de_call tk (ok_ticked M) (hr.mono (by decide)) (by rfl) (da_cons (de_v 0) da_nil) (ln_cons ln_nil)))
      (dss_cons (ds_if (dt_cmp (op_eqD hr.units) p_eq (nomark _) (de_v 2) (de_v 0)) (dss_one (ds_ret (de_tup (da_cons (de_v 1) (da_cons de_int da_nil)) (Ln.le (ln_cons (ln_cons ln_nil)))))) (dss_nil))
      (dss_cons (ds_if (dt_cmp (op_eqD hr.units) p_eq (nomark _) (de_call tk (ok_ticked M) (hr.mono (by decide)) (by rfl) (da_cons (de_v 2) da_nil) (ln_cons ln_nil)) (de_v 0)) (dss_one (ds_ret (de_tup (da_cons (de_v 1) (da_cons de_int da_nil)) (Ln.le (ln_cons (ln_cons ln_nil)))))) (dss_nil))
      (dss_one (ds_par (i := 0) (j := 1) rfl nd rfl rfl (by decide) rfl rfl (de_v 2) (de_bin o_add p_add (de_v 1) de_int) rfl)))))))
theorem sc_never_change : FnScope ["board", "found", "now", "turn", "cell"] ["board"] (defScope (top 24)) := ⟨rfl, rfl, rfl, by decide +kernel, rfl, by decide +kernel, by decide +kernel⟩
theorem ok_never_change (M : Md K mg w) : Has P w K mg base T (cvK K) 5 "never_change" 1 D_never_change := by
  obtain ⟨f, fd, F, hm⟩ := M.f_never_change
  refine fn_d F hm (F.binds fun _ _ _ _ _ _ us hl => match us, hl with | [_], _ => rfl) sc_never_change rfl (by decide) fun cdv A outer s H E hr => ?_
  have nd := sc_never_change.nd
  have tk : Tk (cxOf (L2N.CX P w) P w K mg base ["board", "found", "now", "turn", "cell"] "never_change" (defScope (top 24)) f cdv A outer s H E) E := L2N.takes_of rfl rfl rfl rfl
  have pw : PassesOwn (model P w) (cxOf (L2N.CX P w) P w K mg base ["board", "found", "now", "turn", "cell"] "never_change" (defScope (top 24)) f cdv A outer s H E).A (cxOf (L2N.CX P w) P w K mg base ["board", "found", "now", "turn", "cell"] "never_change" (defScope (top 24)) f cdv A outer s H E).env (cxOf (L2N.CX P w) P w K mg base ["board", "found", "now", "turn", "cell"] "never_change" (defScope (top 24)) f cdv A outer s H E).xe := L2.passes_of rfl
  exact dss_cons (ds_exp (de_call tk (ok_need_board M) (hr.mono (by decide)) (by rfl) (da_cons (de_v 0) da_nil) (ln_cons ln_nil)))
    (dss_cons (ds_asg (de_tup (da_cons (de_call tk (ok_free_cells M) (hr.mono (by decide)) (by rfl) (da_cons (de_v 0) da_nil) (ln_cons ln_nil)) (da_cons (de_v 0) da_nil)) (Ln.le (ln_cons (ln_cons ln_nil)))) (dg_t rfl (dgs_cons (i := 1) nd rfl (by first | exact Or.inl rfl | exact Or.inr rfl) (dgs_cons (i := 2) nd rfl (by first | exact Or.inl rfl | exact Or.inr rfl) (dgs_nil)))))
    (dss_cons (ds_for pw rfl (di_r1 (by rfl) M.m_range (da_cons (de_bin o_add p_add (de_ix (de_call tk (ok_fate_of M) (hr.mono (by decide)) (by rfl) (da_cons (de_v 0) da_nil) (ln_cons ln_nil)) de_int ix_seq p_ix (fun _ _ => rfl)) de_int) da_nil)) (dg_n (i := 3) nd rfl (by first | exact Or.inl rfl | exact Or.inr rfl)) (dss_cons (ds_set (i := 2) nd rfl (by first | exact Or.inl rfl | exact Or.inr rfl) (de_call tk (ok_ticked M) (hr.mono (by decide)) (by rfl) (da_cons (de_v 2) da_nil) (ln_cons ln_nil)))
      (dss_one (ds_setLc (i := 1) (own := [("cell", 4)]) rfl nd rfl rfl (sw_true rfl rfl rfl (by decide +kernel)) (di_l (de_v 1)) (blkOk_by (by kernel_rfl)) (fun _ _ _ _ _ => dg_n (i := 4) nd rfl (by first | exact Or.inl rfl | exact Or.inr rfl)) (fun _ _ _ _ _ => dts_one (dt_cmp (op_eqD hr.units) p_eq (nomark _) (de_call tk0 (ok_ice_at M) (hr.mono (by decide)) (by rfl) (da_cons (de_v 2) (da_cons (de_v 4) da_nil)) (ln_cons (ln_cons ln_nil))) (de_call tk0 (ok_ice_at M) (hr.mono (by decide)) (by rfl) (da_cons (de_v 0) (da_cons (de_v 4) da_nil)) (ln_cons (ln_cons ln_nil))))) (fun _ _ _ _ _ => de_v 4)))))
    (dss_one (ds_ret (de_callTy call_tuple_of p_tuple (by rfl) M.m_tuple PyProof.Rows.boot_tuple (da_cons (de_v 1) da_nil))))))
theorem sc__law_drawn : FnScope ["cell", "k", "more"] ["cell", "k"] (defScope (top 32)) := ⟨rfl, rfl, rfl, by decide +kernel, rfl, by decide +kernel, by decide +kernel⟩
theorem ok__law_drawn (M : Md K mg w) : Has P w K mg base T (cvK K) 1 "_law_drawn" 2 D__law_drawn := by
  obtain ⟨f, fd, F, hm⟩ := M.f__law_drawn
  refine fn_d F hm (F.binds fun _ _ _ _ _ _ us hl => match us, hl with | [_, _], _ => rfl) sc__law_drawn rfl (by decide) fun cdv A outer s H E hr => ?_
  have nd := sc__law_drawn.nd
  have tk : Tk (cxOf (L2N.CX P w) P w K mg base ["cell", "k", "more"] "_law_drawn" (defScope (top 32)) f cdv A outer s H E) E := L2N.takes_of rfl rfl rfl rfl
  have pw : PassesOwn (model P w) (cxOf (L2N.CX P w) P w K mg base ["cell", "k", "more"] "_law_drawn" (defScope (top 32)) f cdv A outer s H E).A (cxOf (L2N.CX P w) P w K mg base ["cell", "k", "more"] "_law_drawn" (defScope (top 32)) f cdv A outer s H E).env (cxOf (L2N.CX P w) P w K mg base ["cell", "k", "more"] "_law_drawn" (defScope (top 32)) f cdv A outer s H E).xe := L2.passes_of rfl
  exact dss_cons (ds_set (i := 2) nd rfl (by first | exact Or.inl rfl | exact Or.inr rfl) (de_bin op_mod p_mod (de_bin o_add p_add (de_bin o_mul p_mul (de_v 0) de_int) (de_bin o_mul p_mul (de_bin o_add p_add (de_v 1) de_int) de_int)) de_int))
    (dss_cons (ds_set (i := 2) nd rfl (by first | exact Or.inl rfl | exact Or.inr rfl) (de_bin op_mod p_mod (de_bin o_mul p_mul (de_v 2) (de_v 2)) de_int))
    (dss_cons (ds_set (i := 2) nd rfl (by first | exact Or.inl rfl | exact Or.inr rfl) (de_bin o_mul p_mul (de_bin o_mul p_mul (de_bin o_add p_add (de_bin op_mod p_mod (de_v 2) de_int) de_int) (de_bin o_add p_add (de_bin op_fdivW p_fdiv (de_v 2) de_int) de_int)) (de_v 2)))
    (dss_one (ds_ret (de_bin op_mod p_mod (de_v 2) de_int)))))
theorem sc__law_roll : FnScope ["dice", "many", "told"] ["dice", "many"] (defScope (top 33)) := ⟨rfl, rfl, rfl, by decide +kernel, rfl, by decide +kernel, by decide +kernel⟩
theorem ok__law_roll (M : Md K mg w) : HasO P w K mg base T (cvK K) 2 "_law_roll" 2 D__law_roll := by
  obtain ⟨f, fd, F, hm⟩ := M.f__law_roll
  refine fn_o F hm (F.binds fun _ _ _ _ _ _ us hl => match us, hl with | [_, _], _ => rfl) sc__law_roll rfl (by decide) (by decide) fun cdv A outer s H E hr => ?_
  have nd := sc__law_roll.nd
  have tk : Tk (cxOf (L2N.CX P w) P w K mg base ["dice", "many", "told"] "_law_roll" (defScope (top 33)) f cdv A outer s H E) E := L2N.takes_of rfl rfl rfl rfl
  have pw : PassesOwn (model P w) (cxOf (L2N.CX P w) P w K mg base ["dice", "many", "told"] "_law_roll" (defScope (top 33)) f cdv A outer s H E).A (cxOf (L2N.CX P w) P w K mg base ["dice", "many", "told"] "_law_roll" (defScope (top 33)) f cdv A outer s H E).env (cxOf (L2N.CX P w) P w K mg base ["dice", "many", "told"] "_law_roll" (defScope (top 33)) f cdv A outer s H E).xe := L2.passes_of rfl
  exact dss_cons (ds_if (dt_cmp op_ge p_ge (nomark _) (de_ixO (i := 0) rfl (by first | exact Or.inl rfl | exact Or.inr (Or.inl rfl) | exact Or.inr (Or.inr rfl)) de_int (fun _ _ => rfl)) (de_bin op_pow p_pow de_int de_int)) (dss_cons (ds_set (i := 2) nd rfl (by first | exact Or.inl rfl | exact Or.inr rfl) (de_bin op_mod p_mod (de_ixO (i := 0) rfl (by first | exact Or.inl rfl | exact Or.inr (Or.inl rfl) | exact Or.inr (Or.inr rfl)) de_int (fun _ _ => rfl)) (de_v 1)))
      (dss_cons (ds_put (i := 0) (j := 0) rfl (by first | exact Or.inl rfl | exact Or.inr (Or.inl rfl)) (de_bin op_fdivW p_fdiv (de_ixO (i := 0) rfl (by first | exact Or.inl rfl | exact Or.inr (Or.inl rfl) | exact Or.inr (Or.inr rfl)) de_int (fun _ _ => rfl)) (de_v 1)))
      (dss_one (ds_ret (de_v 2))))) (dss_nil))
    (dss_cons (ds_put (i := 0) (j := 1) rfl (by first | exact Or.inl rfl | exact Or.inr (Or.inl rfl)) (de_bin o_add p_add (de_ixO (i := 0) rfl (by first | exact Or.inl rfl | exact Or.inr (Or.inl rfl) | exact Or.inr (Or.inr rfl)) de_int (fun _ _ => rfl)) de_int))
    (dss_one (ds_ret (de_bin op_mod p_mod (de_bin op_fdivW p_fdiv (de_call tk (ok__law_drawn M) (hr.mono (by decide)) (by rfl) (da_cons (de_ixO (i := 0) rfl (by first | exact Or.inl rfl | exact Or.inr (Or.inl rfl) | exact Or.inr (Or.inr rfl)) de_int (fun _ _ => rfl)) (da_cons (de_ixO (i := 0) rfl (by first | exact Or.inl rfl | exact Or.inr (Or.inl rfl) | exact Or.inr (Or.inr rfl)) de_int (fun _ _ => rfl)) da_nil)) (ln_cons (ln_cons ln_nil))) de_int) (de_v 1)))))
theorem sc_need_small : FnScope ["board"] ["board"] (defScope (top 13)) := ⟨rfl, rfl, rfl, by decide +kernel, rfl, by decide +kernel, by decide +kernel⟩
theorem ok_need_small (M : Md K mg w) : Has P w K mg base T (cvK K) 2 "need_small" 1 D_need_small := by
  obtain ⟨f, fd, F, hm⟩ := M.f_need_small
  refine fn_d F hm (F.binds fun _ _ _ _ _ _ us hl => match us, hl with | [_], _ => rfl) sc_need_small rfl (by decide) fun cdv A outer s H E hr => ?_
  have nd := sc_need_small.nd
  have tk : Tk (cxOf (L2N.CX P w) P w K mg base ["board"] "need_small" (defScope (top 13)) f cdv A outer s H E) E := L2N.takes_of rfl rfl rfl rfl
  have pw : PassesOwn (model P w) (cxOf (L2N.CX P w) P w K mg base ["board"] "need_small" (defScope (top 13)) f cdv A outer s H E).A (cxOf (L2N.CX P w) P w K mg base ["board"] "need_small" (defScope (top 13)) f cdv A outer s H E).env (cxOf (L2N.CX P w) P w K mg base ["board"] "need_small" (defScope (top 13)) f cdv A outer s H E).xe := L2.passes_of rfl
  exact dss_one (ds_if (dt_cmp (o_gt hr.units) p_gt' (nomark _) (de_callB o_len p_len (by rfl) M.m_len PySem.boot_len (da_cons (de_call tk (ok_free_cells M) (hr.mono (by decide)) (by rfl) (da_cons (de_v 0) da_nil) (ln_cons ln_nil)) da_nil)) de_int) (dss_one (ds_raise (cn := 6) rfl tk (pm_own M.x_TooLarge (by rfl)))) (dss_nil))
theorem sc_chosen : FnScope ["some", "cells", "size", "found", "cell"] ["some", "cells", "size"] (defScope (top 28)) := ⟨rfl, rfl, rfl, by decide +kernel, rfl, by decide +kernel, by decide +kernel⟩
theorem ok_chosen (M : Md K mg w) : ∀ n : Nat, Has P w K mg base T (cvK K) (1 + n) "chosen" 3 (D_chosen n)
  | 0 => by
    obtain ⟨f, fd, F, hm⟩ := M.f_chosen
    exact fn_d F hm (F.binds fun _ _ _ _ _ _ us hl => match us, hl with | [_, _, _], _ => rfl) sc_chosen rfl (by decide) fun cdv A outer s H E hr => dss_bad
  | n + 1 => by
    have G := ok_chosen M n
    obtain ⟨f, fd, F, hm⟩ := M.f_chosen
    refine fn_d F hm (F.binds fun _ _ _ _ _ _ us hl => match us, hl with | [_, _, _], _ => rfl) sc_chosen rfl (by decide) fun cdv A outer s H E hr => ?_
    have nd := sc_chosen.nd
    have tk : Tk (cxOf (L2N.CX P w) P w K mg base ["some", "cells", "size", "found", "cell"] "chosen" (defScope (top 28)) f cdv A outer s H E) E := L2N.takes_of rfl rfl rfl rfl
    have pw : PassesOwn (model P w) (cxOf (L2N.CX P w) P w K mg base ["some", "cells", "size", "found", "cell"] "chosen" (defScope (top 28)) f cdv A outer s H E).A (cxOf (L2N.CX P w) P w K mg base ["some", "cells", "size", "found", "cell"] "chosen" (defScope (top 28)) f cdv A outer s H E).env (cxOf (L2N.CX P w) P w K mg base ["some", "cells", "size", "found", "cell"] "chosen" (defScope (top 28)) f cdv A outer s H E).xe := L2.passes_of rfl
    exact dss_cons (ds_if (dt_cmp (op_eqD hr.units) p_eq (nomark _) (de_callB o_len p_len (by rfl) M.m_len PySem.boot_len (da_cons (de_v 0) da_nil)) (de_v 2)) (dss_one (ds_ret (de_lst (da_cons (de_v 0) da_nil) (Ln.le (ln_cons ln_nil))))) (dss_nil))
          (dss_cons (ds_set (i := 3) nd rfl (by first | exact Or.inl rfl | exact Or.inr rfl) (de_lst da_nil (Ln.le ln_nil)))
          (dss_cons (ds_for pw rfl (di_l (de_v 1)) (dg_n (i := 4) nd rfl (by first | exact Or.inl rfl | exact Or.inr rfl)) (dss_one (ds_if (DW.t (dw_or (dt_cmp (op_eqD hr.units) p_eq (nomark _) (de_v 0) (de_tup da_nil (Ln.le ln_nil))) (dw_or1 (dt_cmp (o_gt hr.units) p_gt' (nomark _) (de_v 4) (de_ix (de_v 0) (de_un un_neg p_neg de_int) ix_seq p_ix (fun _ _ => rfl)))))) (dss_one (ds_set (i := 3) nd rfl (by first | exact Or.inl rfl | exact Or.inr rfl) (de_bin o_add p_add (de_v 3) (de_call tk G (hr.mono (Nat.le_refl _)) (by rfl) (da_cons (de_bin o_add p_add (de_v 0) (de_tup (da_cons (de_v 4) da_nil) (Ln.le (ln_cons ln_nil)))) (da_cons (de_v 1) (da_cons (de_v 2) da_nil))) (ln_cons (ln_cons (ln_cons ln_nil))))))) (dss_nil))))
          (dss_one (ds_ret (de_v 3)))))
theorem sc_drawn : FnScope ["board", "some", "found", "number", "signs", "line", "column", "sign"] ["board", "some"] (defScope (top 12)) := ⟨rfl, rfl, rfl, by decide +kernel, rfl, by decide +kernel, by decide +kernel⟩
theorem ok_drawn (M : Md K mg w) : Has P w K mg base T (cvK K) 1 "drawn" 2 D_drawn := by
  obtain ⟨f, fd, F, hm⟩ := M.f_drawn
  refine fn_d F hm (F.binds fun _ _ _ _ _ _ us hl => match us, hl with | [_, _], _ => rfl) sc_drawn rfl (by decide) fun cdv A outer s H E hr => ?_
  have nd := sc_drawn.nd
  have tk : Tk (cxOf (L2N.CX P w) P w K mg base ["board", "some", "found", "number", "signs", "line", "column", "sign"] "drawn" (defScope (top 12)) f cdv A outer s H E) E := L2N.takes_of rfl rfl rfl rfl
  have pw : PassesOwn (model P w) (cxOf (L2N.CX P w) P w K mg base ["board", "some", "found", "number", "signs", "line", "column", "sign"] "drawn" (defScope (top 12)) f cdv A outer s H E).A (cxOf (L2N.CX P w) P w K mg base ["board", "some", "found", "number", "signs", "line", "column", "sign"] "drawn" (defScope (top 12)) f cdv A outer s H E).env (cxOf (L2N.CX P w) P w K mg base ["board", "some", "found", "number", "signs", "line", "column", "sign"] "drawn" (defScope (top 12)) f cdv A outer s H E).xe := L2.passes_of rfl
  exact dss_cons (ds_newL (i := 2) nd rfl (by first | exact Or.inl rfl | exact Or.inr rfl) da_nil (Ln.le ln_nil))
    (dss_cons (ds_for pw rfl (di_enT (by rfl) M.m_enumerate (de_v 0)) (dg_t rfl (dgs_cons (i := 3) nd rfl (by first | exact Or.inl rfl | exact Or.inr rfl) (dgs_cons (i := 4) nd rfl (by first | exact Or.inl rfl | exact Or.inr rfl) (dgs_nil)))) (dss_cons (ds_set (i := 5) nd rfl (by first | exact Or.inl rfl | exact Or.inr rfl) (de_str tx6))
      (dss_cons (ds_for pw rfl (di_enS (by rfl) M.m_enumerate (de_v 4)) (dg_t rfl (dgs_cons (i := 6) nd rfl (by first | exact Or.inl rfl | exact Or.inr rfl) (dgs_cons (i := 7) nd rfl (by first | exact Or.inl rfl | exact Or.inr rfl) (dgs_nil)))) (dss_one (ds_aug (i := 5) nd rfl (by first | exact Or.inl rfl | exact Or.inr rfl) (de_ifE (dt_cmp op_in_sign p_inS rfl (de_v 7) (de_str tx3)) (de_v 7) (de_ifE (dt_cmp (o_in hr) p_in (by rfl) (de_tup (da_cons (de_v 3) (da_cons (de_v 6) da_nil)) (Ln.le (ln_cons (ln_cons ln_nil)))) (de_v 1)) (de_str tx4) (de_str tx5))) o_iadd p_iadd)))
      (dss_one (ds_app (i := 2) rfl (by first | exact Or.inl rfl | exact Or.inr (Or.inl rfl)) (de_v 5))))))
    (dss_frz 2 (dss_one (ds_ret (de_callTy call_tuple_of p_tuple (by rfl) M.m_tuple PyProof.Rows.boot_tuple (da_cons (de_v 2) da_nil))))))
theorem sc_all_ice : FnScope ["board"] ["board"] (defScope (top 26)) := ⟨rfl, rfl, rfl, by decide +kernel, rfl, by decide +kernel, by decide +kernel⟩
theorem ok_all_ice (M : Md K mg w) : Has P w K mg base T (cvK K) 2 "all_ice" 1 D_all_ice := by
  obtain ⟨f, fd, F, hm⟩ := M.f_all_ice
  refine fn_d F hm (F.binds fun _ _ _ _ _ _ us hl => match us, hl with | [_], _ => rfl) sc_all_ice rfl (by decide) fun cdv A outer s H E hr => ?_
  have nd := sc_all_ice.nd
  have tk : Tk (cxOf (L2N.CX P w) P w K mg base ["board"] "all_ice" (defScope (top 26)) f cdv A outer s H E) E := L2N.takes_of rfl rfl rfl rfl
  have pw : PassesOwn (model P w) (cxOf (L2N.CX P w) P w K mg base ["board"] "all_ice" (defScope (top 26)) f cdv A outer s H E).A (cxOf (L2N.CX P w) P w K mg base ["board"] "all_ice" (defScope (top 26)) f cdv A outer s H E).env (cxOf (L2N.CX P w) P w K mg base ["board"] "all_ice" (defScope (top 26)) f cdv A outer s H E).xe := L2.passes_of rfl
  exact dss_one (ds_ret (de_call tk (ok_drawn M) (hr.mono (by decide)) (by rfl) (da_cons (de_v 0) (da_cons (de_call tk (ok_free_cells M) (hr.mono (by decide)) (by rfl) (da_cons (de_v 0) da_nil) (ln_cons ln_nil)) da_nil)) (ln_cons (ln_cons ln_nil))))
theorem sc_later : FnScope ["board", "ticks", "turn"] ["board", "ticks"] (defScope (top 19)) := ⟨rfl, rfl, rfl, by decide +kernel, rfl, by decide +kernel, by decide +kernel⟩
theorem ok_later (M : Md K mg w) : Has P w K mg base T (cvK K) 4 "later" 2 D_later := by
  obtain ⟨f, fd, F, hm⟩ := M.f_later
  refine fn_d F hm (F.binds fun _ _ _ _ _ _ us hl => match us, hl with | [_, _], _ => rfl) sc_later rfl (by decide) fun cdv A outer s H E hr => ?_
  have nd := sc_later.nd
  have tk : Tk (cxOf (L2N.CX P w) P w K mg base ["board", "ticks", "turn"] "later" (defScope (top 19)) f cdv A outer s H E) E := L2N.takes_of rfl rfl rfl rfl
  have pw : PassesOwn (model P w) (cxOf (L2N.CX P w) P w K mg base ["board", "ticks", "turn"] "later" (defScope (top 19)) f cdv A outer s H E).A (cxOf (L2N.CX P w) P w K mg base ["board", "ticks", "turn"] "later" (defScope (top 19)) f cdv A outer s H E).env (cxOf (L2N.CX P w) P w K mg base ["board", "ticks", "turn"] "later" (defScope (top 19)) f cdv A outer s H E).xe := L2.passes_of rfl
  exact dss_cons (ds_for pw rfl (di_r1 (by rfl) M.m_range (da_cons (de_v 1) da_nil)) (dg_n (i := 2) nd rfl (by first | exact Or.inl rfl | exact Or.inr rfl)) (dss_one (ds_set (i := 0) nd rfl (by first | exact Or.inl rfl | exact Or.inr rfl) (de_call tk (ok_ticked M) (hr.mono (by decide)) (by rfl) (da_cons (de_v 0) da_nil) (ln_cons ln_nil)))))
    (dss_one (ds_ret (de_v 0)))
theorem sc_freezes : FnScope ["board", "some", "start", "goal"] ["board", "some"] (defScope (top 27)) := ⟨rfl, rfl, rfl, by decide +kernel, rfl, by decide +kernel, by decide +kernel⟩
theorem ok_freezes (M : Md K mg w) : Has P w K mg base T (cvK K) 5 "freezes" 2 D_freezes := by
  obtain ⟨f, fd, F, hm⟩ := M.f_freezes
  refine fn_d F hm (F.binds fun _ _ _ _ _ _ us hl => match us, hl with | [_, _], _ => rfl) sc_freezes rfl (by decide) fun cdv A outer s H E hr => ?_
  have nd := sc_freezes.nd
  have tk : Tk (cxOf (L2N.CX P w) P w K mg base ["board", "some", "start", "goal"] "freezes" (defScope (top 27)) f cdv A outer s H E) E := L2N.takes_of rfl rfl rfl rfl
  have pw : PassesOwn (model P w) (cxOf (L2N.CX P w) P w K mg base ["board", "some", "start", "goal"] "freezes" (defScope (top 27)) f cdv A outer s H E).A (cxOf (L2N.CX P w) P w K mg base ["board", "some", "start", "goal"] "freezes" (defScope (top 27)) f cdv A outer s H E).env (cxOf (L2N.CX P w) P w K mg base ["board", "some", "start", "goal"] "freezes" (defScope (top 27)) f cdv A outer s H E).xe := L2.passes_of rfl
  exact dss_cons (ds_par (i := 2) (j := 3) rfl nd rfl rfl (by decide) rfl rfl (de_call tk (ok_drawn M) (hr.mono (by decide)) (by rfl) (da_cons (de_v 0) (da_cons (de_v 1) da_nil)) (ln_cons (ln_cons ln_nil))) (de_call tk (ok_all_ice M) (hr.mono (by decide)) (by rfl) (da_cons (de_v 0) da_nil) (ln_cons ln_nil)) rfl)
    (dss_one (ds_ret (de_and (de_cmp (op_eqD hr.units) p_eq (nomark _) (de_call tk (ok_ticked M) (hr.mono (by decide)) (by rfl) (da_cons (de_v 3) da_nil) (ln_cons ln_nil)) (de_v 3)) (de_one (de_cmp (op_eqD hr.units) p_eq (nomark _) (de_call tk (ok_later M) (hr.mono (by decide)) (by rfl) (da_cons (de_v 2) (da_cons (de_ix (de_call tk (ok_fate_of M) (hr.mono (by decide)) (by rfl) (da_cons (de_v 2) da_nil) (ln_cons ln_nil)) de_int ix_seq p_ix (fun _ _ => rfl)) da_nil)) (ln_cons (ln_cons ln_nil))) (de_v 3))))))
theorem sc_fewest_freezing : FnScope ["board", "own", "size", "some"] ["board"] (defScope (top 29)) := ⟨rfl, rfl, rfl, by decide +kernel, rfl, by decide +kernel, by decide +kernel⟩
theorem ok_fewest_freezing (M : Md K mg w) : Has P w K mg base T (cvK K) 14 "fewest_freezing" 1 D_fewest_freezing := by
  obtain ⟨f, fd, F, hm⟩ := M.f_fewest_freezing
  refine fn_d F hm (F.binds fun _ _ _ _ _ _ us hl => match us, hl with | [_], _ => rfl) sc_fewest_freezing rfl (by decide) fun cdv A outer s H E hr => ?_
  have nd := sc_fewest_freezing.nd
  have tk : Tk (cxOf (L2N.CX P w) P w K mg base ["board", "own", "size", "some"] "fewest_freezing" (defScope (top 29)) f cdv A outer s H E) E := L2N.takes_of rfl rfl rfl rfl
  have pw : PassesOwn (model P w) (cxOf (L2N.CX P w) P w K mg base ["board", "own", "size", "some"] "fewest_freezing" (defScope (top 29)) f cdv A outer s H E).A (cxOf (L2N.CX P w) P w K mg base ["board", "own", "size", "some"] "fewest_freezing" (defScope (top 29)) f cdv A outer s H E).env (cxOf (L2N.CX P w) P w K mg base ["board", "own", "size", "some"] "fewest_freezing" (defScope (top 29)) f cdv A outer s H E).xe := L2.passes_of rfl
  exact dss_cons (ds_exp (de_call tk (ok_need_board M) (hr.mono (by decide)) (by rfl) (da_cons (de_v 0) da_nil) (ln_cons ln_nil)))
    (dss_cons (ds_exp (de_call tk (ok_need_small M) (hr.mono (by decide)) (by rfl) (da_cons (de_v 0) da_nil) (ln_cons ln_nil)))
    (dss_cons (ds_set (i := 1) nd rfl (by first | exact Or.inl rfl | exact Or.inr rfl) (de_call tk (ok_free_cells M) (hr.mono (by decide)) (by rfl) (da_cons (de_v 0) da_nil) (ln_cons ln_nil)))
    (dss_cons (ds_for pw rfl (di_r1 (by rfl) M.m_range (da_cons (de_bin o_add p_add (de_callB o_len p_len (by rfl) M.m_len PySem.boot_len (da_cons (de_v 1) da_nil)) de_int) da_nil)) (dg_n (i := 2) nd rfl (by first | exact Or.inl rfl | exact Or.inr rfl)) (dss_one (ds_for pw rfl (di_l (de_call tk (ok_chosen M 12) (hr.mono (by decide)) (by rfl) (da_cons (de_tup da_nil (Ln.le ln_nil)) (da_cons (de_v 1) (da_cons (de_v 2) da_nil))) (ln_cons (ln_cons (ln_cons ln_nil))))) (dg_n (i := 3) nd rfl (by first | exact Or.inl rfl | exact Or.inr rfl)) (dss_one (ds_if (dt_v (de_call tk (ok_freezes M) (hr.mono (by decide)) (by rfl) (da_cons (de_v 0) (da_cons (de_v 3) da_nil)) (ln_cons (ln_cons ln_nil)))) (dss_one (ds_ret (de_v 3))) (dss_nil))))))
    (dss_one (ds_ret de_non)))))
theorem sc_is_still : FnScope ["board"] ["board"] (defScope (top 22)) := ⟨rfl, rfl, rfl, by decide +kernel, rfl, by decide +kernel, by decide +kernel⟩
theorem ok_is_still (M : Md K mg w) : Has P w K mg base T (cvK K) 4 "is_still" 1 D_is_still := by
  obtain ⟨f, fd, F, hm⟩ := M.f_is_still
  refine fn_d F hm (F.binds fun _ _ _ _ _ _ us hl => match us, hl with | [_], _ => rfl) sc_is_still rfl (by decide) fun cdv A outer s H E hr => ?_
  have nd := sc_is_still.nd
  have tk : Tk (cxOf (L2N.CX P w) P w K mg base ["board"] "is_still" (defScope (top 22)) f cdv A outer s H E) E := L2N.takes_of rfl rfl rfl rfl
  have pw : PassesOwn (model P w) (cxOf (L2N.CX P w) P w K mg base ["board"] "is_still" (defScope (top 22)) f cdv A outer s H E).A (cxOf (L2N.CX P w) P w K mg base ["board"] "is_still" (defScope (top 22)) f cdv A outer s H E).env (cxOf (L2N.CX P w) P w K mg base ["board"] "is_still" (defScope (top 22)) f cdv A outer s H E).xe := L2.passes_of rfl
  exact dss_cons (ds_exp (de_call tk (ok_need_board M) (hr.mono (by decide)) (by rfl) (da_cons (de_v 0) da_nil) (ln_cons ln_nil)))
    (dss_one (ds_ret (de_cmp (op_eqD hr.units) p_eq (nomark _) (de_call tk (ok_ticked M) (hr.mono (by decide)) (by rfl) (da_cons (de_v 0) da_nil) (ln_cons ln_nil)) (de_v 0))))
theorem sc_step : FnScope ["board"] ["board"] (defScope (top 18)) := ⟨rfl, rfl, rfl, by decide +kernel, rfl, by decide +kernel, by decide +kernel⟩
theorem ok_step (M : Md K mg w) : Has P w K mg base T (cvK K) 4 "step" 1 D_step := by
  obtain ⟨f, fd, F, hm⟩ := M.f_step
  refine fn_d F hm (F.binds fun _ _ _ _ _ _ us hl => match us, hl with | [_], _ => rfl) sc_step rfl (by decide) fun cdv A outer s H E hr => ?_
  have nd := sc_step.nd
  have tk : Tk (cxOf (L2N.CX P w) P w K mg base ["board"] "step" (defScope (top 18)) f cdv A outer s H E) E := L2N.takes_of rfl rfl rfl rfl
  have pw : PassesOwn (model P w) (cxOf (L2N.CX P w) P w K mg base ["board"] "step" (defScope (top 18)) f cdv A outer s H E).A (cxOf (L2N.CX P w) P w K mg base ["board"] "step" (defScope (top 18)) f cdv A outer s H E).env (cxOf (L2N.CX P w) P w K mg base ["board"] "step" (defScope (top 18)) f cdv A outer s H E).xe := L2.passes_of rfl
  exact dss_cons (ds_exp (de_call tk (ok_need_board M) (hr.mono (by decide)) (by rfl) (da_cons (de_v 0) da_nil) (ln_cons ln_nil)))
    (dss_one (ds_ret (de_call tk (ok_ticked M) (hr.mono (by decide)) (by rfl) (da_cons (de_v 0) da_nil) (ln_cons ln_nil))))
theorem sc_fate : FnScope ["board"] ["board"] (defScope (top 21)) := ⟨rfl, rfl, rfl, by decide +kernel, rfl, by decide +kernel, by decide +kernel⟩
theorem ok_fate (M : Md K mg w) : Has P w K mg base T (cvK K) 5 "fate" 1 D_fate := by
  obtain ⟨f, fd, F, hm⟩ := M.f_fate
  refine fn_d F hm (F.binds fun _ _ _ _ _ _ us hl => match us, hl with | [_], _ => rfl) sc_fate rfl (by decide) fun cdv A outer s H E hr => ?_
  have nd := sc_fate.nd
  have tk : Tk (cxOf (L2N.CX P w) P w K mg base ["board"] "fate" (defScope (top 21)) f cdv A outer s H E) E := L2N.takes_of rfl rfl rfl rfl
  have pw : PassesOwn (model P w) (cxOf (L2N.CX P w) P w K mg base ["board"] "fate" (defScope (top 21)) f cdv A outer s H E).A (cxOf (L2N.CX P w) P w K mg base ["board"] "fate" (defScope (top 21)) f cdv A outer s H E).env (cxOf (L2N.CX P w) P w K mg base ["board"] "fate" (defScope (top 21)) f cdv A outer s H E).xe := L2.passes_of rfl
  exact dss_cons (ds_exp (de_call tk (ok_need_board M) (hr.mono (by decide)) (by rfl) (da_cons (de_v 0) da_nil) (ln_cons ln_nil)))
    (dss_one (ds_ret (de_call tk (ok_fate_of M) (hr.mono (by decide)) (by rfl) (da_cons (de_v 0) da_nil) (ln_cons ln_nil))))
theorem sc_exchanged : FnScope ["board", "signs", "sign"] ["board"] (defScope (top 11)) := ⟨rfl, rfl, rfl, by decide +kernel, rfl, by decide +kernel, by decide +kernel⟩
theorem ok_exchanged (M : Md K mg w) : Has P w K mg base T (cvK K) 4 "exchanged" 1 D_exchanged := by
  obtain ⟨f, fd, F, hm⟩ := M.f_exchanged
  refine fn_d F hm (F.binds fun _ _ _ _ _ _ us hl => match us, hl with | [_], _ => rfl) sc_exchanged rfl (by decide) fun cdv A outer s H E hr => ?_
  have nd := sc_exchanged.nd
  have tk : Tk (cxOf (L2N.CX P w) P w K mg base ["board", "signs", "sign"] "exchanged" (defScope (top 11)) f cdv A outer s H E) E := L2N.takes_of rfl rfl rfl rfl
  have pw : PassesOwn (model P w) (cxOf (L2N.CX P w) P w K mg base ["board", "signs", "sign"] "exchanged" (defScope (top 11)) f cdv A outer s H E).A (cxOf (L2N.CX P w) P w K mg base ["board", "signs", "sign"] "exchanged" (defScope (top 11)) f cdv A outer s H E).env (cxOf (L2N.CX P w) P w K mg base ["board", "signs", "sign"] "exchanged" (defScope (top 11)) f cdv A outer s H E).xe := L2.passes_of rfl
  exact dss_cons (ds_exp (de_call tk (ok_need_board M) (hr.mono (by decide)) (by rfl) (da_cons (de_v 0) da_nil) (ln_cons ln_nil)))
    (dss_one (ds_ret (de_callTy call_tuple_of p_tuple (by rfl) M.m_tuple PyProof.Rows.boot_tuple (da_cons (de_lc (own := [("signs", 1)]) rfl nd (di_t (de_v 0)) (blkOk_by (by kernel_rfl)) (fun _ _ _ _ _ => dg_n (i := 1) nd rfl (by first | exact Or.inl rfl | exact Or.inr rfl)) (fun _ _ _ _ _ => dts_nil) (fun _ _ _ _ _ => de_join tx6 (de_lc (own := [("sign", 2)]) rfl nd (di_s (de_v 1)) (blkOk_by (by kernel_rfl)) (fun _ _ _ _ _ => dg_n (i := 2) nd rfl (by first | exact Or.inl rfl | exact Or.inr rfl)) (fun _ _ _ _ _ => dts_nil) (fun _ _ _ _ _ => de_tab (by rfl) M.tab (de_v 2) (fun _ _ => rfl))))) da_nil))))
theorem sc_tension : FnScope ["board", "made", "total", "row", "column", "own", "cell"] ["board"] (defScope (top 23)) := ⟨rfl, rfl, rfl, by decide +kernel, rfl, by decide +kernel, by decide +kernel⟩
theorem ok_tension (M : Md K mg w) : Has P w K mg base T (cvK K) 4 "tension" 1 D_tension := by
  obtain ⟨f, fd, F, hm⟩ := M.f_tension
  refine fn_d F hm (F.binds fun _ _ _ _ _ _ us hl => match us, hl with | [_], _ => rfl) sc_tension rfl (by decide) fun cdv A outer s H E hr => ?_
  have nd := sc_tension.nd
  have tk : Tk (cxOf (L2N.CX P w) P w K mg base ["board", "made", "total", "row", "column", "own", "cell"] "tension" (defScope (top 23)) f cdv A outer s H E) E := L2N.takes_of rfl rfl rfl rfl
  have pw : PassesOwn (model P w) (cxOf (L2N.CX P w) P w K mg base ["board", "made", "total", "row", "column", "own", "cell"] "tension" (defScope (top 23)) f cdv A outer s H E).A (cxOf (L2N.CX P w) P w K mg base ["board", "made", "total", "row", "column", "own", "cell"] "tension" (defScope (top 23)) f cdv A outer s H E).env (cxOf (L2N.CX P w) P w K mg base ["board", "made", "total", "row", "column", "own", "cell"] "tension" (defScope (top 23)) f cdv A outer s H E).xe := L2.passes_of rfl
  exact dss_cons (ds_exp (de_call tk (ok_need_board M) (hr.mono (by decide)) (by rfl) (da_cons (de_v 0) da_nil) (ln_cons ln_nil)))
    (dss_cons (ds_par (i := 1) (j := 2) rfl nd rfl rfl (by decide) rfl rfl (de_call tk (ok_ticked M) (hr.mono (by decide)) (by rfl) (da_cons (de_v 0) da_nil) (ln_cons ln_nil)) de_int rfl)
    (dss_cons (ds_for pw rfl (di_r1 (by rfl) M.m_range (da_cons (de_callB o_len p_len (by rfl) M.m_len PySem.boot_len (da_cons (de_v 0) da_nil)) da_nil)) (dg_n (i := 3) nd rfl (by first | exact Or.inl rfl | exact Or.inr rfl)) (dss_one (ds_for pw rfl (di_r1 (by rfl) M.m_range (da_cons (de_callB o_len p_len (by rfl) M.m_len PySem.boot_len (da_cons (de_ix (de_v 0) de_int ix_seq p_ix (fun _ _ => rfl)) da_nil)) da_nil)) (dg_n (i := 4) nd rfl (by first | exact Or.inl rfl | exact Or.inr rfl)) (dss_cons (ds_set (i := 5) nd rfl (by first | exact Or.inl rfl | exact Or.inr rfl) (de_call tk (ok_ice_at M) (hr.mono (by decide)) (by rfl) (da_cons (de_v 1) (da_cons (de_tup (da_cons (de_v 3) (da_cons (de_v 4) da_nil)) (Ln.le (ln_cons (ln_cons ln_nil)))) da_nil)) (ln_cons (ln_cons ln_nil))))
        (dss_one (ds_aug (i := 2) nd rfl (by first | exact Or.inl rfl | exact Or.inr rfl) (de_callB o_len p_len (by rfl) M.m_len PySem.boot_len (da_cons (de_lc (own := [("cell", 6)]) rfl nd (di_l (de_call tk (ok_neighbours M) (hr.mono (by decide)) (by rfl) (da_cons (de_v 0) (da_cons (de_tup (da_cons (de_v 3) (da_cons (de_v 4) da_nil)) (Ln.le (ln_cons (ln_cons ln_nil)))) da_nil)) (ln_cons (ln_cons ln_nil)))) (blkOk_by (by kernel_rfl)) (fun _ _ _ _ _ => dg_n (i := 6) nd rfl (by first | exact Or.inl rfl | exact Or.inr rfl)) (fun _ _ _ _ _ => dts_one (dt_cmp (op_neD hr.units) p_ne (nomark _) (de_call tk0 (ok_ice_at M) (hr.mono (by decide)) (by rfl) (da_cons (de_v 0) (da_cons (de_v 6) da_nil)) (ln_cons (ln_cons ln_nil))) (de_v 5))) (fun _ _ _ _ _ => de_v 6)) da_nil)) o_iadd p_iadd))))))
    (dss_one (ds_ret (de_v 2)))))
theorem sc_law : FnScope ["script", "dice", "size", "board", "signs", "made", "column", "after_one", "turns", "due"] ["script"] (defScope (top 35)) := ⟨rfl, rfl, rfl, by decide +kernel, rfl, by decide +kernel, by decide +kernel⟩
theorem ok_law (M : Md K mg w) (hf : ∀ c : Int, ∃ r', B_law ((List.replicate 10 Sl.un).set 1 (.bor [.int c, .int 0])) = .ok .nx r' ∧ r'.length = 10) {f : Addr} {fd : FuncData} (F : Fun K "law" "law" (top 35) f fd) : FnOk P w K mg base (L2N.CX P w) 15 f fd ["script"] (spLaw T K) := by
  refine Fun.okN F sc_law (fun vs H Q E h => ?_) fun cdv A outer s H vs Q E hr h => ?_
  · obtain ⟨a, ns, e, _⟩ := h
    rw [e]
    rfl
  · obtain ⟨a, ns, e, hb, hA, hT, q⟩ := h
    subst e
    have nd := sc_law.nd
    have tk : Tk (cxOf (L2N.CX P w) P w K mg base ["script", "dice", "size", "board", "signs", "made", "column", "after_one", "turns", "due"] "law" (defScope (top 35)) f cdv A outer s H E) E := L2N.takes_of rfl rfl rfl rfl
    have pw : PassesOwn (model P w) (cxOf (L2N.CX P w) P w K mg base ["script", "dice", "size", "board", "signs", "made", "column", "after_one", "turns", "due"] "law" (defScope (top 35)) f cdv A outer s H E).A (cxOf (L2N.CX P w) P w K mg base ["script", "dice", "size", "board", "signs", "made", "column", "after_one", "turns", "due"] "law" (defScope (top 35)) f cdv A outer s H E).env (cxOf (L2N.CX P w) P w K mg base ["script", "dice", "size", "board", "signs", "made", "column", "after_one", "turns", "due"] "law" (defScope (top 35)) f cdv A outer s H E).xe := L2.passes_of rfl
    obtain ⟨ra, rfd, rps, g1, g2, g3, g4⟩ := ok__law_rounds (P := P) (base := base) (T := T) M
    exact law_body (T := T) (cv := cvK K) (E := E) (n := 10) (di := 1) pw tk rfl g4 (hr.mono (by decide)) (by rfl) g1 g2 g3 rfl (by first | exact Or.inl rfl | exact Or.inr (Or.inl rfl) | exact Or.inr (Or.inr rfl)) nd rfl (by first | exact Or.inl rfl | exact Or.inr rfl)
      (dss_cons (ds_set (i := 2) nd rfl (by first | exact Or.inl rfl | exact Or.inr rfl) (de_bin o_add p_add de_int (de_callO (i := 1) tk (ok__law_roll M) (hr.mono (by decide)) (by rfl) rfl (by first | exact Or.inl rfl | exact Or.inr (Or.inl rfl) | exact Or.inr (Or.inr rfl)) (da_cons de_int da_nil) (ln_cons ln_nil))))
          (dss_cons (ds_set (i := 3) nd rfl (by first | exact Or.inl rfl | exact Or.inr rfl) (de_tup (da_cons (de_join tx6 (de_lc (own := [("column", 6)]) rfl nd (di_r1 (by rfl) M.m_range (da_cons (de_v 2) da_nil)) (blkOk_by (by kernel_rfl)) (fun _ _ _ _ _ => dg_n (i := 6) nd rfl (by first | exact Or.inl rfl | exact Or.inr rfl)) (fun _ _ _ _ _ => dts_nil) (fun _ _ _ _ _ => de_ix (de_str tx1) (de_callO (i := 1) tk0 (ok__law_roll M) (hr.mono (by decide)) (by rfl) rfl (by first | exact Or.inl rfl | exact Or.inr (Or.inl rfl) | exact Or.inr (Or.inr rfl)) (da_cons de_int da_nil) (ln_cons ln_nil)) ix_seq p_ix (fun _ _ => rfl)))) da_nil) (Ln.le (ln_cons ln_nil))))
          (dss_cons (ds_set (i := 4) nd rfl (by first | exact Or.inl rfl | exact Or.inr rfl) (de_ix (de_v 3) de_int ix_seq p_ix (fun _ _ => rfl)))
          (dss_cons (ds_set (i := 5) nd rfl (by first | exact Or.inl rfl | exact Or.inr rfl) (de_call tk (ok_never_change M) (hr.mono (by decide)) (by rfl) (da_cons (de_v 3) da_nil) (ln_cons ln_nil)))
          (dss_cons (ds_for pw rfl (di_r2 (by rfl) M.m_range (da_cons de_int (da_cons (de_bin op_sub p_sub (de_v 2) de_int) da_nil))) (dg_n (i := 6) nd rfl (by first | exact Or.inl rfl | exact Or.inr rfl)) (dss_one (ds_if (dt_cmp (op_eqD hr.units) p_eq (nomark _) (de_ix (de_v 4) (de_v 6) ix_seq p_ix (fun _ _ => rfl)) (de_ix (de_v 4) (de_bin o_add p_add (de_v 6) de_int) ix_seq p_ix (fun _ _ => rfl))) (dss_one (ds_if (DW.t (dw_or (dt_cmp (o_notIn hr) p_notIn (by rfl) (de_tup (da_cons de_int (da_cons (de_v 6) da_nil)) (Ln.le (ln_cons (ln_cons ln_nil)))) (de_v 5)) (dw_or1 (dt_cmp (o_notIn hr) p_notIn (by rfl) (de_tup (da_cons de_int (da_cons (de_bin o_add p_add (de_v 6) de_int) da_nil)) (Ln.le (ln_cons (ln_cons ln_nil)))) (de_v 5))))) (dss_one (ds_ret de_bl)) (dss_nil))) (dss_nil))))
          (dss_cons (ds_if (DW.t (dw_and (dt_cmp (op_eqD hr.units) p_eq (nomark _) (de_v 2) de_int) (dw_and1 (dt_not (dt_v (de_call tk (ok_is_still M) (hr.mono (by decide)) (by rfl) (da_cons (de_v 3) da_nil) (ln_cons ln_nil))))))) (dss_one (ds_ret de_bl)) (dss_nil))
          (dss_cons (ds_if (DW.t (dw_and (dt_cmp (op_eqD hr.units) p_eq (nomark _) (de_v 2) de_int) (dw_and1 (dt_cmp (op_neD hr.units) p_ne (nomark _) (de_call tk (ok_step M) (hr.mono (by decide)) (by rfl) (da_cons (de_v 3) da_nil) (ln_cons ln_nil)) (de_tup (da_cons (de_rev (de_v 4)) da_nil) (Ln.le (ln_cons ln_nil))))))) (dss_one (ds_ret de_bl)) (dss_nil))
          (dss_cons (ds_if (dt_cmp (o_gt hr.units) p_gt' (nomark _) (de_v 2) de_int) (dss_cons (ds_set (i := 7) nd rfl (by first | exact Or.inl rfl | exact Or.inr rfl) (de_ix (de_call tk (ok_step M) (hr.mono (by decide)) (by rfl) (da_cons (de_v 3) da_nil) (ln_cons ln_nil)) de_int ix_seq p_ix (fun _ _ => rfl)))
            (dss_one (ds_if (DW.t (dw_or (dt_cmp (op_neD hr.units) p_ne (nomark _) (de_ix (de_v 7) de_int ix_seq p_ix (fun _ _ => rfl)) (de_ix (de_v 4) de_int ix_seq p_ix (fun _ _ => rfl))) (dw_or1 (dt_cmp (op_neD hr.units) p_ne (nomark _) (de_ix (de_v 7) (de_un un_neg p_neg de_int) ix_seq p_ix (fun _ _ => rfl)) (de_ix (de_v 4) (de_un un_neg p_neg de_int) ix_seq p_ix (fun _ _ => rfl)))))) (dss_one (ds_ret de_bl)) (dss_nil)))) (dss_nil))
          (dss_cons (ds_set (i := 8) nd rfl (by first | exact Or.inl rfl | exact Or.inr rfl) (de_tup (da_cons (de_sl (de_str tx7) do_no (do_so (de_v 2))) da_nil) (Ln.le (ln_cons ln_nil))))
          (dss_cons (ds_if (DW.t (dw_and (dt_cmp (o_gt hr.units) p_gt' (nomark _) (de_v 2) de_int) (dw_and1 (DW.t (dw_or (dt_cmp (op_neD hr.units) p_ne (nomark _) (de_call tk (ok_fate M) (hr.mono (by decide)) (by rfl) (da_cons (de_v 8) da_nil) (ln_cons ln_nil)) (de_tup (da_cons de_int (da_cons de_int da_nil)) (Ln.le (ln_cons (ln_cons ln_nil))))) (dw_or1 (dt_cmp (op_neD hr.units) p_ne (nomark _) (de_call tk (ok_step M) (hr.mono (by decide)) (by rfl) (da_cons (de_v 8) da_nil) (ln_cons ln_nil)) (de_call tk (ok_exchanged M) (hr.mono (by decide)) (by rfl) (da_cons (de_v 8) da_nil) (ln_cons ln_nil))))))))) (dss_one (ds_ret de_bl)) (dss_nil))
          (dss_cons (ds_if (DW.t (dw_or (dt_cmp (o_gt hr.units) p_gt' (nomark _) (de_ix (de_call tk (ok_fate M) (hr.mono (by decide)) (by rfl) (da_cons (de_v 3) da_nil) (ln_cons ln_nil)) de_int ix_seq p_ix (fun _ _ => rfl)) (de_v 2)) (dw_or1 (DW.t (dw_and (dt_cmp (o_gt hr.units) p_gt' (nomark _) (de_v 2) de_int) (dw_and1 (dt_cmp (op_neD hr.units) p_ne (nomark _) (de_call tk (ok_tension M) (hr.mono (by decide)) (by rfl) (da_cons (de_v 8) da_nil) (ln_cons ln_nil)) de_int))))))) (dss_one (ds_ret de_bl)) (dss_nil))
          (dss_cons (ds_set (i := 9) nd rfl (by first | exact Or.inl rfl | exact Or.inr rfl) (de_ix (de_lst (da_cons (de_tup (da_cons (de_tup (da_cons de_int (da_cons de_int da_nil)) (Ln.le (ln_cons (ln_cons ln_nil)))) da_nil) (Ln.le (ln_cons ln_nil))) (da_cons (de_tup (da_cons (de_tup (da_cons de_int (da_cons de_int da_nil)) (Ln.le (ln_cons (ln_cons ln_nil)))) (da_cons (de_tup (da_cons de_int (da_cons de_int da_nil)) (Ln.le (ln_cons (ln_cons ln_nil)))) da_nil)) (Ln.le (ln_cons (ln_cons ln_nil)))) (da_cons (de_tup (da_cons (de_tup (da_cons de_int (da_cons de_int da_nil)) (Ln.le (ln_cons (ln_cons ln_nil)))) (da_cons (de_tup (da_cons de_int (da_cons de_int da_nil)) (Ln.le (ln_cons (ln_cons ln_nil)))) da_nil)) (Ln.le (ln_cons (ln_cons ln_nil)))) (da_cons (de_tup (da_cons (de_tup (da_cons de_int (da_cons de_int da_nil)) (Ln.le (ln_cons (ln_cons ln_nil)))) (da_cons (de_tup (da_cons de_int (da_cons de_int da_nil)) (Ln.le (ln_cons (ln_cons ln_nil)))) da_nil)) (Ln.le (ln_cons (ln_cons ln_nil)))) da_nil)))) (Ln.le (ln_cons (ln_cons (ln_cons (ln_cons ln_nil)))))) (de_bin op_sub p_sub (de_v 2) de_int) ix_seq p_ix (fun _ _ => rfl)))
          (dss_one (ds_if (dt_cmp (op_neD hr.units) p_ne (nomark _) (de_call tk (ok_fewest_freezing M) (hr.mono (by decide)) (by rfl) (da_cons (de_tup (da_cons (de_bin o_mul p_mul (de_str tx5) (de_v 2)) da_nil) (Ln.le (ln_cons ln_nil))) da_nil) (ln_cons ln_nil)) (de_v 9)) (dss_one (ds_ret de_bl)) (dss_nil)))))))))))))))
      rfl (by decide) rfl hA hT hb (by decide) hf q
end
def d_is_row : He.DefD := ⟨("is_row", none), "is_row", "is_row", defArgs (top 6), defBody (top 6), defScope (top 6), [], []⟩
def d_is_board : He.DefD := ⟨("is_board", none), "is_board", "is_board", defArgs (top 7), defBody (top 7), defScope (top 7), [], []⟩
def d_need_board : He.DefD := ⟨("need_board", none), "need_board", "need_board", defArgs (top 8), defBody (top 8), defScope (top 8), [], []⟩
def d_free_cells : He.DefD := ⟨("free_cells", none), "free_cells", "free_cells", defArgs (top 9), defBody (top 9), defScope (top 9), [], []⟩
def d_ice_at : He.DefD := ⟨("ice_at", none), "ice_at", "ice_at", defArgs (top 10), defBody (top 10), defScope (top 10), [], []⟩
def d_exchanged : He.DefD := ⟨("exchanged", none), "exchanged", "exchanged", defArgs (top 11), defBody (top 11), defScope (top 11), [], []⟩
def d_drawn : He.DefD := ⟨("drawn", none), "drawn", "drawn", defArgs (top 12), defBody (top 12), defScope (top 12), [], []⟩
def d_need_small : He.DefD := ⟨("need_small", none), "need_small", "need_small", defArgs (top 13), defBody (top 13), defScope (top 13), [], []⟩
def d_neighbours : He.DefD := ⟨("neighbours", none), "neighbours", "neighbours", defArgs (top 15), defBody (top 15), defScope (top 15), [], []⟩
def d_next_sign : He.DefD := ⟨("next_sign", none), "next_sign", "next_sign", defArgs (top 16), defBody (top 16), defScope (top 16), [], []⟩
def d_ticked : He.DefD := ⟨("ticked", none), "ticked", "ticked", defArgs (top 17), defBody (top 17), defScope (top 17), [], []⟩
def d_step : He.DefD := ⟨("step", none), "step", "step", defArgs (top 18), defBody (top 18), defScope (top 18), [], []⟩
def d_later : He.DefD := ⟨("later", none), "later", "later", defArgs (top 19), defBody (top 19), defScope (top 19), [], []⟩
def d_fate_of : He.DefD := ⟨("fate_of", none), "fate_of", "fate_of", defArgs (top 20), defBody (top 20), defScope (top 20), [], []⟩
def d_fate : He.DefD := ⟨("fate", none), "fate", "fate", defArgs (top 21), defBody (top 21), defScope (top 21), [], []⟩
def d_is_still : He.DefD := ⟨("is_still", none), "is_still", "is_still", defArgs (top 22), defBody (top 22), defScope (top 22), [], []⟩
def d_tension : He.DefD := ⟨("tension", none), "tension", "tension", defArgs (top 23), defBody (top 23), defScope (top 23), [], []⟩
def d_never_change : He.DefD := ⟨("never_change", none), "never_change", "never_change", defArgs (top 24), defBody (top 24), defScope (top 24), [], []⟩
def d_all_ice : He.DefD := ⟨("all_ice", none), "all_ice", "all_ice", defArgs (top 26), defBody (top 26), defScope (top 26), [], []⟩
def d_freezes : He.DefD := ⟨("freezes", none), "freezes", "freezes", defArgs (top 27), defBody (top 27), defScope (top 27), [], []⟩
def d_chosen : He.DefD := ⟨("chosen", none), "chosen", "chosen", defArgs (top 28), defBody (top 28), defScope (top 28), [], []⟩
def d_fewest_freezing : He.DefD := ⟨("fewest_freezing", none), "fewest_freezing", "fewest_freezing", defArgs (top 29), defBody (top 29), defScope (top 29), [], []⟩
def d__law_cell : He.DefD := ⟨("_law_cell", none), "_law_cell", "_law_cell", defArgs (top 31), defBody (top 31), defScope (top 31), [], []⟩
def d__law_drawn : He.DefD := ⟨("_law_drawn", none), "_law_drawn", "_law_drawn", defArgs (top 32), defBody (top 32), defScope (top 32), [], []⟩
def d__law_roll : He.DefD := ⟨("_law_roll", none), "_law_roll", "_law_roll", defArgs (top 33), defBody (top 33), defScope (top 33), [], []⟩
def d__law_rounds : He.DefD := ⟨("_law_rounds", none), "_law_rounds", "_law_rounds", defArgs (top 34), defBody (top 34), defScope (top 34), [], []⟩
def d_law : He.DefD := ⟨("law", none), "law", "law", defArgs (top 35), defBody (top 35), defScope (top 35), [], []⟩
def fa0 : List He.Fa := [.glo "is_row", .glo "is_board", .glo "need_board", .glo "free_cells", .glo "ice_at", .glo "exchanged", .glo "drawn", .glo "need_small", .glo "neighbours", .glo "next_sign", .glo "ticked", .glo "step", .glo "later", .glo "fate_of", .glo "fate", .glo "is_still", .glo "tension", .glo "never_change", .glo "all_ice", .glo "freezes", .glo "chosen", .glo "fewest_freezing", .glo "_law_cell", .glo "_law_drawn"]
def fa1 : List He.Fa := [.glo "_law_roll", .glo "_law_rounds", .glo "law", .glo "FrostError", .glo "InvalidBoard", .glo "TooLarge", .glo "OTHER", .free "ValueError", .free "all", .free "enumerate", .free "isinstance", .free "len", .free "max", .free "min", .free "range", .free "str", .free "tuple", .exc "FrostError", .exc "InvalidBoard", .exc "TooLarge", .exm "FrostError" "FrostError" true, .exm "InvalidBoard" "FrostError" true, .exm "TooLarge" "FrostError" true]
def fa : List He.Fa := fa0 ++ fa1
def fn0 : List He.DefD := [d_is_row, d_is_board, d_need_board, d_free_cells, d_ice_at, d_exchanged, d_drawn, d_need_small, d_neighbours, d_next_sign, d_ticked, d_step, d_later, d_fate_of, d_fate, d_is_still, d_tension, d_never_change, d_all_ice, d_freezes, d_chosen, d_fewest_freezing, d__law_cell, d__law_drawn]
def fn1 : List He.DefD := [d__law_roll, d__law_rounds, d_law]
def fn : List He.DefD := fn0 ++ fn1
def loose0 : List Str := ["is_row", "is_board", "need_board", "free_cells", "ice_at", "exchanged", "drawn", "need_small", "neighbours", "next_sign", "ticked", "step", "later", "fate_of", "fate", "is_still", "tension", "never_change", "all_ice", "freezes", "chosen", "fewest_freezing", "_law_cell", "_law_drawn"]
def loose1 : List Str := ["_law_roll", "_law_rounds", "FrostError", "InvalidBoard", "TooLarge", "OTHER"]
def loose : List Str := loose0 ++ loose1
abbrev R9 : PySem.W.OpenRow := PySem.W.OpenLaw.row PySem.Challenge.rw_frostboard_k17_whole_rows
abbrev ts9 : List He.Tab := [(fun K => He.ga K "OTHER", ["#", ".", "*", "o"])]
abbrev tf9 : List He.Defn := []
abbrev hk9 : PySem.W.Hook := He.hookX 4 fa fn ts9 tf9 exTab
def ob9 (s : PySem.W.SharedT) : He.AlX := He.obsX 4 fa fn ts9 tf9 exTab (HandSHeadRun.getT s)
theorem ob9_eq (s : PySem.W.SharedT) : ob9 s = hk9.obs s.abs := He.obsX_eq (HandSHeadRun.getT_eq s)
theorem run9 (w : World) : HandSHeadRun.RunEq R9 (PySem.W.view R9.prog [35]) hk9 ob9 4000 loose w := by
  refine PySem.W.byRow2 "special-get-raises" (P := fun w => HandSHeadRun.RunEq R9 (PySem.W.view R9.prog [35]) hk9 ob9 4000 loose w) ?_ ?_ w
  · intro w os
    kernel_rfl
  · intro w os
    kernel_rfl
theorem md9 {K : PySem.W.Frag} {h : Heap} {mg : Str → Option Value} {w : World} (X : K.In h) (G : h.Ns mainGlobals mg) (c : He.SaysX fa fn ts9 tf9 exTab w h K) : Md K mg w where
  tab := md_tab X G c.t rfl (List.mem_append.mpr (.inr (show _ ∈ fa1 by unfold fa1; simp))) c.more
  m_ValueError := md_free X G c.t.d (List.mem_append.mpr (.inr (show _ ∈ fa1 by unfold fa1; simp)))
  m_all := md_free X G c.t.d (List.mem_append.mpr (.inr (show _ ∈ fa1 by unfold fa1; simp)))
  m_enumerate := md_free X G c.t.d (List.mem_append.mpr (.inr (show _ ∈ fa1 by unfold fa1; simp)))
  m_isinstance := md_free X G c.t.d (List.mem_append.mpr (.inr (show _ ∈ fa1 by unfold fa1; simp)))
  m_len := md_free X G c.t.d (List.mem_append.mpr (.inr (show _ ∈ fa1 by unfold fa1; simp)))
  m_max := md_free X G c.t.d (List.mem_append.mpr (.inr (show _ ∈ fa1 by unfold fa1; simp)))
  m_min := md_free X G c.t.d (List.mem_append.mpr (.inr (show _ ∈ fa1 by unfold fa1; simp)))
  m_range := md_free X G c.t.d (List.mem_append.mpr (.inr (show _ ∈ fa1 by unfold fa1; simp)))
  m_str := md_free X G c.t.d (List.mem_append.mpr (.inr (show _ ∈ fa1 by unfold fa1; simp)))
  m_tuple := md_free X G c.t.d (List.mem_append.mpr (.inr (show _ ∈ fa1 by unfold fa1; simp)))
  x_FrostError := md_exc X G c.t.d (List.mem_append.mpr (.inr (show _ ∈ fa1 by unfold fa1; simp))) (List.mem_append.mpr (.inr (show _ ∈ fa1 by unfold fa1; simp)))
  x_InvalidBoard := md_exc X G c.t.d (List.mem_append.mpr (.inr (show _ ∈ fa1 by unfold fa1; simp))) (List.mem_append.mpr (.inr (show _ ∈ fa1 by unfold fa1; simp)))
  x_TooLarge := md_exc X G c.t.d (List.mem_append.mpr (.inr (show _ ∈ fa1 by unfold fa1; simp))) (List.mem_append.mpr (.inr (show _ ∈ fa1 by unfold fa1; simp)))
  f_is_row := md_fun X G c.t.d (d := d_is_row) rfl (List.mem_append.mpr (.inl (show _ ∈ fn0 by unfold fn0; simp))) (List.mem_append.mpr (.inl (show _ ∈ fa0 by unfold fa0; simp)))
  f_is_board := md_fun X G c.t.d (d := d_is_board) rfl (List.mem_append.mpr (.inl (show _ ∈ fn0 by unfold fn0; simp))) (List.mem_append.mpr (.inl (show _ ∈ fa0 by unfold fa0; simp)))
  f_need_board := md_fun X G c.t.d (d := d_need_board) rfl (List.mem_append.mpr (.inl (show _ ∈ fn0 by unfold fn0; simp))) (List.mem_append.mpr (.inl (show _ ∈ fa0 by unfold fa0; simp)))
  f_free_cells := md_fun X G c.t.d (d := d_free_cells) rfl (List.mem_append.mpr (.inl (show _ ∈ fn0 by unfold fn0; simp))) (List.mem_append.mpr (.inl (show _ ∈ fa0 by unfold fa0; simp)))
  f_ice_at := md_fun X G c.t.d (d := d_ice_at) rfl (List.mem_append.mpr (.inl (show _ ∈ fn0 by unfold fn0; simp))) (List.mem_append.mpr (.inl (show _ ∈ fa0 by unfold fa0; simp)))
  f_exchanged := md_fun X G c.t.d (d := d_exchanged) rfl (List.mem_append.mpr (.inl (show _ ∈ fn0 by unfold fn0; simp))) (List.mem_append.mpr (.inl (show _ ∈ fa0 by unfold fa0; simp)))
  f_drawn := md_fun X G c.t.d (d := d_drawn) rfl (List.mem_append.mpr (.inl (show _ ∈ fn0 by unfold fn0; simp))) (List.mem_append.mpr (.inl (show _ ∈ fa0 by unfold fa0; simp)))
  f_need_small := md_fun X G c.t.d (d := d_need_small) rfl (List.mem_append.mpr (.inl (show _ ∈ fn0 by unfold fn0; simp))) (List.mem_append.mpr (.inl (show _ ∈ fa0 by unfold fa0; simp)))
  f_neighbours := md_fun X G c.t.d (d := d_neighbours) rfl (List.mem_append.mpr (.inl (show _ ∈ fn0 by unfold fn0; simp))) (List.mem_append.mpr (.inl (show _ ∈ fa0 by unfold fa0; simp)))
  f_next_sign := md_fun X G c.t.d (d := d_next_sign) rfl (List.mem_append.mpr (.inl (show _ ∈ fn0 by unfold fn0; simp))) (List.mem_append.mpr (.inl (show _ ∈ fa0 by unfold fa0; simp)))
  f_ticked := md_fun X G c.t.d (d := d_ticked) rfl (List.mem_append.mpr (.inl (show _ ∈ fn0 by unfold fn0; simp))) (List.mem_append.mpr (.inl (show _ ∈ fa0 by unfold fa0; simp)))
  f_step := md_fun X G c.t.d (d := d_step) rfl (List.mem_append.mpr (.inl (show _ ∈ fn0 by unfold fn0; simp))) (List.mem_append.mpr (.inl (show _ ∈ fa0 by unfold fa0; simp)))
  f_later := md_fun X G c.t.d (d := d_later) rfl (List.mem_append.mpr (.inl (show _ ∈ fn0 by unfold fn0; simp))) (List.mem_append.mpr (.inl (show _ ∈ fa0 by unfold fa0; simp)))
  f_fate_of := md_fun X G c.t.d (d := d_fate_of) rfl (List.mem_append.mpr (.inl (show _ ∈ fn0 by unfold fn0; simp))) (List.mem_append.mpr (.inl (show _ ∈ fa0 by unfold fa0; simp)))
  f_fate := md_fun X G c.t.d (d := d_fate) rfl (List.mem_append.mpr (.inl (show _ ∈ fn0 by unfold fn0; simp))) (List.mem_append.mpr (.inl (show _ ∈ fa0 by unfold fa0; simp)))
  f_is_still := md_fun X G c.t.d (d := d_is_still) rfl (List.mem_append.mpr (.inl (show _ ∈ fn0 by unfold fn0; simp))) (List.mem_append.mpr (.inl (show _ ∈ fa0 by unfold fa0; simp)))
  f_tension := md_fun X G c.t.d (d := d_tension) rfl (List.mem_append.mpr (.inl (show _ ∈ fn0 by unfold fn0; simp))) (List.mem_append.mpr (.inl (show _ ∈ fa0 by unfold fa0; simp)))
  f_never_change := md_fun X G c.t.d (d := d_never_change) rfl (List.mem_append.mpr (.inl (show _ ∈ fn0 by unfold fn0; simp))) (List.mem_append.mpr (.inl (show _ ∈ fa0 by unfold fa0; simp)))
  f_all_ice := md_fun X G c.t.d (d := d_all_ice) rfl (List.mem_append.mpr (.inl (show _ ∈ fn0 by unfold fn0; simp))) (List.mem_append.mpr (.inl (show _ ∈ fa0 by unfold fa0; simp)))
  f_freezes := md_fun X G c.t.d (d := d_freezes) rfl (List.mem_append.mpr (.inl (show _ ∈ fn0 by unfold fn0; simp))) (List.mem_append.mpr (.inl (show _ ∈ fa0 by unfold fa0; simp)))
  f_chosen := md_fun X G c.t.d (d := d_chosen) rfl (List.mem_append.mpr (.inl (show _ ∈ fn0 by unfold fn0; simp))) (List.mem_append.mpr (.inl (show _ ∈ fa0 by unfold fa0; simp)))
  f_fewest_freezing := md_fun X G c.t.d (d := d_fewest_freezing) rfl (List.mem_append.mpr (.inl (show _ ∈ fn0 by unfold fn0; simp))) (List.mem_append.mpr (.inl (show _ ∈ fa0 by unfold fa0; simp)))
  f__law_cell := md_fun X G c.t.d (d := d__law_cell) rfl (List.mem_append.mpr (.inl (show _ ∈ fn0 by unfold fn0; simp))) (List.mem_append.mpr (.inl (show _ ∈ fa0 by unfold fa0; simp)))
  f__law_drawn := md_fun X G c.t.d (d := d__law_drawn) rfl (List.mem_append.mpr (.inl (show _ ∈ fn0 by unfold fn0; simp))) (List.mem_append.mpr (.inl (show _ ∈ fa0 by unfold fa0; simp)))
  f__law_roll := md_fun X G c.t.d (d := d__law_roll) rfl (List.mem_append.mpr (.inr (show _ ∈ fn1 by unfold fn1; simp))) (List.mem_append.mpr (.inr (show _ ∈ fa1 by unfold fa1; simp)))
  f__law_rounds := md_fun X G c.t.d (d := d__law_rounds) rfl (List.mem_append.mpr (.inr (show _ ∈ fn1 by unfold fn1; simp))) (List.mem_append.mpr (.inr (show _ ∈ fa1 by unfold fa1; simp)))
theorem fl9 {K : PySem.W.Frag} {h : Heap} {mg : Str → Option Value} {w : World} (X : K.In h) (G : h.Ns mainGlobals mg) (c : He.SaysX fa fn ts9 tf9 exTab w h K) : ∃ f fd, FunD K "law" "law" (defArgs (top 35)) (defBody (top 35)) (defScope (top 35)) [] [] f fd ∧ mg "law" = some (.ref f) := md_fund X G c.t.d (d := d_law) rfl (List.mem_append.mpr (.inr (show _ ∈ fn1 by unfold fn1; simp))) (List.mem_append.mpr (.inr (show _ ∈ fa1 by unfold fa1; simp)))
end FB
open PySem PySem.W PySem.Calls PyProof.Rows in
theorem PySem.Challenge.cw_frostboard_k17_whole_rows_holds : PySem.Challenge.rw_frostboard_k17_whole_rows.Holds := by
  w_on; o_law
  refine HandSHeadRun.head_any (r := OpenLaw.row PySem.Challenge.rw_frostboard_k17_whole_rows) (q := view (OpenLaw.row PySem.Challenge.rw_frostboard_k17_whole_rows).prog [35]) (H := FB.hk9) (ob := FB.ob9) (M := 4000) (loose := FB.loose) (d := HandSHeadRun.topDef (OpenLaw.row PySem.Challenge.rw_frostboard_k17_whole_rows).prog 35) (kwd := []) FB.ob9_eq
    (by kernel_rfl) (fun s => by kernel_rfl) FB.run9 (by kernel_rfl) (by kernel_rfl) (by kernel_rfl) (by rfl) (by first | assumption | decide +kernel) (by decide +kernel) ⟨rfl, rfl, rfl, rfl, rfl, by decide +kernel⟩ ?hw ?hc
  case hw => w_witness2
  case hc =>
    refine LamX.walk_ofTsE (l := PySem.Challenge.rw_frostboard_k17_whole_rows) (n := 63) (k := 15) (x := "script") (CX := fun w => L2N.CX (PySem.Challenge.rw_frostboard_k17_whole_rows).prog w) rfl (by decide) (by kernel_rfl) ⟨rfl, by decide, by decide⟩ ?F (fun w H s e s' z => by
      obtain ⟨_, _, _, _, _, _, _, _, _, _, _, _, z⟩ := z
      exact z)
    intro w mg fa h Y G hmg0
    obtain ⟨K, KX, c⟩ := Y
    have hmg : mg ("law" : PySem.Str) = some (.ref fa) := by
      have e : (HandSHeadRun.topDef (OpenLaw.row PySem.Challenge.rw_frostboard_k17_whole_rows).prog 35).name = ("law" : PySem.Str) := by kernel_rfl
      rw [← e]
      exact hmg0
    obtain ⟨f, fd, FD, hf⟩ := FB.fl9 KX G c
    have F := FB.to_fun FD
    have ef : f = fa := by
      rw [hmg] at hf
      cases hf
      rfl
    subst ef
    have M := FB.md9 KX G c
    have b := L2.FunD.bindsA (ps := ["script"]) FD fun _ _ _ _ _ _ us hl => match us, hl with | [_], _ => rfl
    refine ⟨K, KX, fd, [], FB.spLaw [] K, (fun p hp => by cases hp), (fun p hp => by cases hp), (fun p hp => by cases hp), fun s u => b s [u] rfl, fun H a ns hl _ hT hS => ⟨a, ns, rfl, hl, hS, (fun p hp => by cases hp), fun _ => rfl⟩, fun base _ _ _ => FB.ok_law M FB.law_plain F⟩
