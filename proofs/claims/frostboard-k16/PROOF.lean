import PyProof.Rows.All
import Wide.All
import OpenK.AllK
import Wide.FinOn
import HandS.ForMost
import HandS.ForExc
import HandS.ExcCtx
import HandS.Deep
import HandS.Wide
import HandS.TupAny
import HandS.IsInst
import HandS.Lambda
import KE.DataFind
import KE.GoesEnum
import HandS.HeadHook4
import KE.DataCmp
import HandS.TupMul
import HandS.Style
import HandS.More
import HandS.HeadWalk
import HandS.Head0
import HandS.Head1
import HandS.Head2
import HandS.HeadEnd
import KE.KStateDown
import HandS.Hot
import HandS.HotCalls
import HandS.ExcIs
import PyProof.Rows.RegReprOcc
import KE.SortData
import HandS.Text
import HandS.TupLe
import HandS.ReplaceLit
import PyProof.StrLawsReplace
import PySem.Challenge.RW_frostboard_k16_whole_meetings
set_option Elab.async false
set_option linter.all false
set_option maxRecDepth 100000
set_option maxHeartbeats 0
/-! Plain data and what the program's pieces do with them: no program in sight. -/
namespace FB
inductive D where
  | non | bl (b : Bool) | int (i : Int) | str (s : List Nat) | lst (xs : List D) | tup (xs : List D) | fz (ns : List Int) | opq (a : Nat) | dic (ks vs : List D)
  deriving Inhabited
mutual
def D.eqv : D → D → Bool
  | .non, .non => true
  | .bl a, .bl b => a == b
  | .bl a, .int j => (if a then 1 else 0) == j
  | .int i, .bl b => i == (if b then 1 else 0)
  | .int i, .int j => i == j
  | .str x, .str y => x == y
  | .lst xs, .lst ys => D.eqvL xs ys
  | .tup xs, .tup ys => D.eqvL xs ys
  | _, _ => false
def D.eqvL : List D → List D → Bool
  | [], [] => true
  | x :: xs, y :: ys => D.eqv x y && D.eqvL xs ys
  | _, _ => false
end
mutual
def D.dep : D → Nat
  | .lst xs => D.depL xs + 1
  | .tup xs => D.depL xs + 1
  | .fz _ => 100
  | .opq _ => 200
  | .dic _ _ => 200
  | _ => 0
def D.depL : List D → Nat
  | [] => 0
  | x :: xs => max (D.dep x) (D.depL xs)
end
/-- a slot of a frame: without a value, a datum that stays, a list of one's own that may change, a list of the caller's that may change -/
inductive Sl where
  | un | dat (d : D) | own (xs : List D) | bor (xs : List D)
abbrev En := List Sl
/-- a run: a value and the slots; an exception of class c; nothing is promised -/
inductive R (α : Type) where
  | ok (a : α) (r : En) | exc (c : Nat) (r : En) | bad
abbrev M (α : Type) := En → R α
def R.andThen {α β : Type} (x : R α) (f : α → En → R β) : R β := match x with
  | .ok a r => f a r
  | .exc c r => .exc c r
  | .bad => .bad
def R.lift {α : Type} (o : Option α) (r : En) : R α := match o with
  | some a => .ok a r
  | none => .bad
/-- what a def gives -/
inductive Ro where
  | ok (d : D) | exc (c : Nat) | bad
/-- what a def gives that got a list to change -/
inductive Rw where
  | ok (d : D) (xs : List D) | exc (c : Nat) (xs : List D) | bad
inductive Fl where
  | nx | ret (d : D)
/-! ### operations -/
def lim : Nat := 100000
def pyEq (d e : D) : Option Bool := match d, e with
  | .fz ns, .lst [] => some ns.isEmpty
  | d, e => if d.dep ≤ 60 ∧ e.dep ≤ 60 then some (D.eqv d e) else none
def opEq (d e : D) : Option D := (pyEq d e).map .bl
def opNe (d e : D) : Option D := (pyEq d e).map fun b => .bl (!b)
def opAdd : D → D → Option D
  | .int i, .int j => some (.int (i + j))
  | .str a, .str b => if a.length + b.length ≤ lim then some (.str (a ++ b)) else none
  | .lst a, .lst b => if a.length + b.length ≤ lim then some (.lst (a ++ b)) else none
  | .tup a, .tup b => if a.length + b.length ≤ lim then some (.tup (a ++ b)) else none
  | _, _ => none
def opSub : D → D → Option D
  | .int i, .int j => some (.int (i - j))
  | _, _ => none
def mulOk (i j : Int) : Bool := Nat.ble j.natAbs.log2 62 || (Nat.ble i.natAbs.log2 62 || Nat.ble (i.natAbs.log2 + j.natAbs.log2) 900000)
def opMul : D → D → Option D
  | .int i, .int j => if mulOk i j then some (.int (i * j)) else none
  | .str x, .int k => if -1000 ≤ k ∧ k ≤ 1000 ∧ x.length ≤ 100 then some (.str (List.replicate k.toNat x).flatten) else none
  | .lst x, .int k => if -1000 ≤ k ∧ k ≤ 1000 ∧ x.length ≤ 100 then some (.lst (List.replicate k.toNat x).flatten) else none
  | .tup x, .int k => if x.isEmpty = false ∧ 2 ≤ k ∧ k ≤ 1000 ∧ x.length ≤ 100 then some (.tup (List.replicate k.toNat x).flatten) else none
  | _, _ => none
def opFdiv : D → D → Option D
  | .int i, .int j => if 0 < j ∧ j.natAbs.log2 < 9000 then some (.int (i / j)) else none
  | _, _ => none
def opMod : D → D → Option D
  | .int i, .int j => if 0 < j then some (.int (i % j)) else none
  | _, _ => none
def opPow : D → D → Option D
  | .int i, .int j => if 0 ≤ j ∧ j ≤ 1000000 ∧ i.natAbs < 18446744073709551616 then some (.int (i ^ j.toNat)) else none
  | _, _ => none
/-! ### order -/
abbrev Tok' := Int ⊕ List Nat
mutual
def D.toks : D → List Tok'
  | .non => []
  | .bl b => [.inl (if b then 1 else 0)]
  | .int n => [.inl n]
  | .str x => [.inr x]
  | .lst xs => D.toksL xs
  | .tup xs => D.toksL xs
  | .fz _ => []
  | .opq _ => []
  | .dic _ _ => []
def D.toksL : List D → List Tok'
  | [] => [.inl 0]
  | x :: xs => .inl 1 :: (D.toks x ++ D.toksL xs)
end
def natsLt : List Nat → List Nat → Bool
  | [], [] => false
  | [], _ :: _ => true
  | _ :: _, [] => false
  | a :: x, b :: y => decide (a < b) || (a == b && natsLt x y)
def tokLt : Tok' → Tok' → Bool
  | .inl a, .inl b => decide (a < b)
  | .inl _, .inr _ => true
  | .inr _, .inl _ => false
  | .inr a, .inr b => natsLt a b
def toksLt : List Tok' → List Tok' → Bool
  | [], [] => false
  | [], _ :: _ => true
  | _ :: _, [] => false
  | x :: r, y :: t => tokLt x y || (!tokLt y x && toksLt r t)
mutual
def D.alike : D → D → Bool
  | .non, .non => true
  | .bl _, .bl _ => true
  | .int _, .int _ => true
  | .str _, .str _ => true
  | .lst xs, .lst ys => D.alikeL xs ys
  | .tup xs, .tup ys => D.alikeL xs ys
  | _, _ => false
def D.alikeL : List D → List D → Bool
  | x :: xs, y :: ys => D.alike x y && D.alikeL xs ys
  | [], _ => true
  | _ :: _, [] => true
end
def D.lt (x y : D) : Bool := toksLt x.toks y.toks
def D.isNon : D → Bool
  | .non => true
  | _ => false
def ltOk (d e : D) : Bool := D.alike d e && !d.isNon && decide (d.dep ≤ 60) && decide (e.dep ≤ 60)
def opLt : D → D → Option D
  | .int i, .int j => some (.bl (decide (i < j)))
  | d, e => if ltOk d e then some (.bl (D.lt d e)) else none
def opGt : D → D → Option D
  | .int i, .int j => some (.bl (decide (j < i)))
  | d, e => if ltOk d e then some (.bl (D.lt e d)) else none
def opLe : D → D → Option D
  | .int i, .int j => some (.bl (decide (i ≤ j)))
  | _, _ => none
def opGe : D → D → Option D
  | .int i, .int j => some (.bl (decide (j ≤ i)))
  | _, _ => none
/-- a sign in a text -/
def opInS : D → D → Option D
  | .str [c], .str s => some (.bl (decide (c ∈ s)))
  | _, _ => none
/-- data in a list or tuple -/
def inB (d : D) : D → Option Bool
  | .lst xs => if d.dep ≤ 60 ∧ D.dep (.lst xs) ≤ 60 then some (xs.any fun z => D.eqv z d) else none
  | .tup xs => if d.dep ≤ 60 ∧ D.dep (.tup xs) ≤ 60 then some (xs.any fun z => D.eqv z d) else none
  | _ => none
def opIn (d e : D) : Option D := (inB d e).map .bl
def atD {α : Type} (xs : List α) (i : Int) : Option α :=
  if 0 ≤ i then xs[i.toNat]? else if -(xs.length : Int) ≤ i then xs[(i + xs.length).toNat]? else none
def opIx : D → D → Option D
  | .lst xs, .int i => atD xs i
  | .tup xs, .int i => atD xs i
  | .str s, .int i => (atD s i).map fun c => .str [c]
  | .fz ns, .int i => (atD ns i).map .int
  | _, _ => none
/-- where a slice's edge stands -/
def sIx (n dflt : Nat) : Option Int → Nat
  | none => dflt
  | some i => if 0 ≤ i then min i.toNat n else (i + n).toNat
def cut {α : Type} (xs : List α) (lo hi : Option Int) : List α := (xs.drop (sIx xs.length 0 lo)).take (sIx xs.length xs.length hi - sIx xs.length 0 lo)
def opSl (lo hi : Option Int) : D → Option D
  | .str s => some (.str (cut s lo hi))
  | .lst xs => some (.lst (cut xs lo hi))
  | .tup xs => some (.tup (cut xs lo hi))
  | _ => none
/-! ### dicts that stay -/
def tabO : D → Option D
  | .str [35] => some (.str [46])
  | .str [46] => some (.str [35])
  | .str [42] => some (.str [111])
  | .str [111] => some (.str [42])
  | _ => none
def opIsN : D → Option D
  | .non => some (.bl true)
  | _ => some (.bl false)
def opNotN : D → Option D
  | .non => some (.bl false)
  | _ => some (.bl true)
def opIsN2 (d e : D) : Option D := match e with
  | .non => opIsN d
  | _ => none
def opNotN2 (d e : D) : Option D := match e with
  | .non => opNotN d
  | _ => none
/-! ### built-in functions -/
def bLen : List D → Option D
  | [.str s] => some (.int s.length)
  | [.lst xs] => some (.int xs.length)
  | [.tup xs] => some (.int xs.length)
  | [.fz ns] => some (.int ns.length)
  | _ => none
def bTuple : List D → Option D
  | [.lst xs] => some (.tup xs)
  | [.tup xs] => some (.tup xs)
  | _ => none
def bMax : List D → Option D
  | [.int i, .int j] => some (.int (if j > i then j else i))
  | _ => none
def bMin : List D → Option D
  | [.int i, .int j] => some (.int (if j < i then j else i))
  | _ => none
def bAbs : List D → Option D
  | [.int i] => some (.int (if i < 0 then -i else i))
  | _ => none
def bls : List D → Option (List Bool)
  | [] => some []
  | .bl b :: r => (bls r).map (b :: ·)
  | _ => none
def intsD : List D → Option (List Int)
  | [] => some []
  | .int i :: r => (intsD r).map (i :: ·)
  | _ => none
def strsD : List D → Option (List (List Nat))
  | [] => some []
  | .str s :: r => (strsD r).map (s :: ·)
  | _ => none
def bAll : List D → Option D
  | [.lst xs] => (bls xs).map fun bs => .bl (bs.all id)
  | _ => none
def bAny : List D → Option D
  | [.lst xs] => (bls xs).map fun bs => .bl (bs.any id)
  | _ => none
def bSum : List D → Option D
  | [.lst xs] => (intsD xs).map fun ns => .int ns.sum
  | _ => none
def bInt : List D → Option D
  | [.int i] => some (.int i)
  | [.bl b] => some (.int (if b then 1 else 0))
  | _ => none
def isTy (t : Nat) : D → Option D
  | .non => some (.bl false)
  | .bl _ => some (.bl (t == 0 || t == 1))
  | .int _ => some (.bl (t == 0))
  | .str _ => some (.bl (t == 2))
  | .tup _ => some (.bl (t == 3))
  | .lst _ => some (.bl false)
  | .fz _ => none
  | .opq _ => none
  | .dic _ _ => none
/-- isinstance(x, C), x the thing at a -/
def isP (a : Nat) (b : Bool) : D → Option D
  | .opq c => if c = a then some (.bl b) else none
  | _ => none
/-- l.index(x) -/
def mIndex : D → List D → Option D
  | .lst xs, [d] => if d.dep ≤ 60 ∧ D.dep (.lst xs) ≤ 60 then (xs.findIdx? fun z => D.eqv z d).map fun j => .int (j : Nat) else none
  | _, _ => none
def opIndex (l d : D) : Option D := mIndex l [d]
/-- sep.join(list) -/
def joinL (sep : List Nat) : List (List Nat) → List Nat
  | [] => []
  | [x] => x
  | x :: r => x ++ sep ++ joinL sep r
def mJoin : D → D → Option D
  | .str a, .lst xs => (strsD xs).bind fun ss => if (joinL a ss).length ≤ lim ∧ ss.length ≤ lim ∧ a.length ≤ 10 then some (.str (joinL a ss)) else none
  | .str a, .tup xs => (strsD xs).bind fun ss => if (joinL a ss).length ≤ lim ∧ ss.length ≤ lim ∧ a.length ≤ 10 then some (.str (joinL a ss)) else none
  | _, _ => none
/-- s.split(c) -/
def splitC (c : Nat) : List Nat → List (List Nat)
  | [] => [[]]
  | x :: xs => if x = c then [] :: splitC c xs else (match splitC c xs with
    | [] => [[x]]
    | p :: r => (x :: p) :: r)
/-- s.replace(c, d), signs -/
def mRepl (c d : Nat) : D → Option D
  | .str s => if s.length ≤ 10000 then some (.str (s.map fun x => if x = c then d else x)) else none
  | _ => none
theorem splitC_ne (c : Nat) : ∀ s, splitC c s ≠ []
  | [] => by simp [splitC]
  | x :: xs => by
    unfold splitC
    split
    · simp
    · split <;> simp
theorem splitC_free (c : Nat) : ∀ {p : List Nat}, c ∉ p → splitC c p = [p]
  | [], _ => rfl
  | x :: p, h => by
    rw [splitC, if_neg (fun z => h (by simp [z])), splitC_free c (fun z => h (List.mem_cons_of_mem _ z))]
theorem splitC_app (c : Nat) (r : List Nat) : ∀ {p : List Nat}, c ∉ p → splitC c (p ++ c :: r) = p :: splitC c r
  | [], _ => by
    rw [List.nil_append, splitC, if_pos rfl]
  | x :: p, h => by
    rw [List.cons_append, splitC, if_neg (fun z => h (by simp [z])), splitC_app c r (fun z => h (List.mem_cons_of_mem _ z))]
theorem splitC_join (c : Nat) : ∀ {ps : List (List Nat)}, ps ≠ [] → (∀ p ∈ ps, c ∉ p) → splitC c (joinL [c] ps) = ps
  | [], h, _ => absurd rfl h
  | [p], _, h => splitC_free c (h p (by simp))
  | p :: q :: r, _, h => by
    have e : joinL [c] (p :: q :: r) = p ++ c :: joinL [c] (q :: r) := by simp [joinL]
    rw [e, splitC_app c _ (h p (by simp)), splitC_join c (by simp) (fun x hx => h x (List.mem_cons_of_mem _ hx))]
/-! sorted(set(..)) of pairs of small numbers -/
def ltI (p q : Int × Int) : Bool := decide (p.1 < q.1) || (decide (p.1 = q.1) && decide (p.2 < q.2))
def notOwn : Option Sl → Bool
  | some (.own _) => false
  | some (.bor _) => false
  | _ => true
/-! ### expressions -/
def eV (i : Nat) : M D := fun r => match r[i]? with
  | some (.dat d) => .ok d r
  | _ => .bad
def eC (d : D) : M D := fun r => .ok d r
def e1 (f : D → Option D) (a : M D) : M D := fun r => (a r).andThen fun x r1 => .lift (f x) r1
def e2 (f : D → D → Option D) (a b : M D) : M D := fun r => (a r).andThen fun x r1 => (b r1).andThen fun y r2 => .lift (f x y) r2
/-- a < b < c -/
def eCh (f g : D → D → Option D) (a b c : M D) : M D := fun r => (a r).andThen fun x r1 => (b r1).andThen fun y r2 => match f x y with
  | some (.bl true) => (c r2).andThen fun z r3 => .lift (g y z) r3
  | some (.bl false) => .ok (.bl false) r2
  | _ => .bad
def aN : M (List D) := fun r => .ok [] r
def aC (a : M D) (as : M (List D)) : M (List D) := fun r => (a r).andThen fun x r1 => (as r1).andThen fun xs r2 => .ok (x :: xs) r2
def eTup (as : M (List D)) : M D := fun r => (as r).andThen fun xs r1 => .ok (.tup xs) r1
def eLst (as : M (List D)) : M D := fun r => (as r).andThen fun xs r1 => .ok (.lst xs) r1
def eB (f : List D → Option D) (as : M (List D)) : M D := fun r => (as r).andThen fun xs r1 => .lift (f xs) r1
def eCall (f : List D → Ro) (as : M (List D)) : M D := fun r => (as r).andThen fun xs r1 => match f xs with
  | .ok d => .ok d r1
  | .exc c => .exc c r1
  | .bad => .bad
/-- f(x, ..), x a list of the caller's -/
def eCallO (f : List D → List D → Rw) (i : Nat) (as : M (List D)) : M D := fun r => match r[i]? with
  | some (.bor _) => (as r).andThen fun xs r1 => (match r1[i]? with
    | some (.bor ys) => (match f ys xs with
      | .ok d zs => .ok d (r1.set i (.bor zs))
      | .exc c zs => .exc c (r1.set i (.bor zs))
      | .bad => .bad)
    | _ => .bad)
  | _ => .bad
/-- x[e], x a list of one's own -/
def eIxO (i : Nat) (a : M D) : M D := fun r => if notOwn r[i]? then .bad else (a r).andThen fun x r1 => match r1[i]?, x with
  | some (.own ys), .int j => .lift (atD ys j) r1
  | some (.bor ys), .int j => .lift (atD ys j) r1
  | _, _ => .bad
/-- l.count(x), s.count(c) -/
def eCnt (a b : M D) : M D := fun r => (a r).andThen fun x r1 => match x with
  | .lst xs => (b r1).andThen fun y r2 => .lift (if y.dep ≤ 60 ∧ D.dep (.lst xs) ≤ 60 then some (.int ((xs.countP fun z => D.eqv z y : Nat) : Int)) else none) r2
  | .str s => (b r1).andThen fun y r2 => (match y with
    | .str [c] => .ok (.int ((s.count c : Nat) : Int)) r2
    | _ => .bad)
  | _ => .bad
/-- l.index(x) -/
def eIdx (a b : M D) : M D := fun r => (a r).andThen fun x r1 => match x with
  | .lst xs => (b r1).andThen fun y r2 => .lift (opIndex (.lst xs) y) r2
  | _ => .bad
/-- an edge of a slice -/
abbrev Eg := M (Option Int)
def gNo : Eg := fun r => .ok none r
def gSo (a : M D) : Eg := fun r => (a r).andThen fun x r1 => match x with
  | .int i => .ok (some i) r1
  | _ => .bad
def eSl (a : M D) (lo hi : Eg) : M D := fun r => (a r).andThen fun x r1 => (lo r1).andThen fun l r2 => (hi r2).andThen fun u r3 => .lift (opSl l u x) r3
def tV (a : M D) : M Bool := fun r => (a r).andThen fun x r1 => match x with
  | .bl b => .ok b r1
  | _ => .bad
def tAn (a b : M Bool) : M Bool := fun r => (a r).andThen fun x r1 => if x then b r1 else .ok false r1
def tOr (a b : M Bool) : M Bool := fun r => (a r).andThen fun x r1 => if x then .ok true r1 else b r1
def tNo (a : M Bool) : M Bool := fun r => (a r).andThen fun x r1 => .ok (!x) r1
def tY : M Bool := fun r => .ok true r
def eAn (a b : M D) : M D := fun r => (a r).andThen fun x r1 => match x with
  | .bl true => b r1
  | .bl false => .ok (.bl false) r1
  | _ => .bad
def eOr (a b : M D) : M D := fun r => (a r).andThen fun x r1 => match x with
  | .bl true => .ok (.bl true) r1
  | .bl false => b r1
  | _ => .bad
def eNo (a : M D) : M D := fun r => (a r).andThen fun x r1 => match x with
  | .bl b => .ok (.bl (!b)) r1
  | _ => .bad
def eIf (c : M Bool) (a b : M D) : M D := fun r => (c r).andThen fun x r1 => if x then a r1 else b r1
/-- the law's word for an exception of class c -/
def errD (kn : Nat → List Nat) (c : Nat) : D := .tup [.str [101, 114, 114, 111, 114], .str (kn c)]
def eTold (kn : Nat → List Nat) (ok : Nat → Bool) (b : M D) : M D := fun r => match b r with
  | .ok d r1 => .ok d r1
  | .exc c r1 => if ok c = true then .ok (errD kn c) r1 else .bad
  | .bad => .bad
/-! ### targets, what is walked -/
abbrev Tg := D → En → Option En
def gN (i : Nat) : Tg := fun d r => some (r.set i (.dat d))
def setAll : List Nat → List D → En → En
  | i :: is, x :: xs, r => setAll is xs (r.set i (.dat x))
  | _, _, r => r
def gT (is : List Nat) : Tg := fun d r => match d with
  | .tup xs => if xs.length = is.length then some (setAll is xs r) else none
  | _ => none
def iL (a : M D) : M (List D) := fun r => (a r).andThen fun x r1 => match x with
  | .lst xs => .ok xs r1
  | _ => .bad
def iT (a : M D) : M (List D) := fun r => (a r).andThen fun x r1 => match x with
  | .tup xs => .ok xs r1
  | _ => .bad
def iS (a : M D) : M (List D) := fun r => (a r).andThen fun x r1 => match x with
  | .str s => .ok (s.map fun c => .str [c]) r1
  | _ => .bad
def iRange1 (as : M (List D)) : M (List D) := fun r => (as r).andThen fun xs r1 => match xs with
  | [.int n] => if n ≤ 100000 ∧ -100000 ≤ n then .ok ((List.range n.toNat).map fun i => .int (i : Nat)) r1 else .bad
  | _ => .bad
def iEnum (it : M (List D)) : M (List D) := fun r => (it r).andThen fun xs r1 => .ok (xs.mapIdx fun i x => .tup [.int (i : Nat), x]) r1
/-! ### comprehensions -/
def wipeE : List Nat → En → En
  | [], r => r
  | v :: vs, r => (wipeE vs r).set v .un
def backE : List Nat → En → En → En
  | [], _, r => r
  | v :: vs, r0, r => (backE vs r0 r).set v (r0.getD v .un)
def lcGo (tg : Tg) (tt : M Bool) (te : M D) (vs : List Nat) : List D → List D → En → R (List D)
  | [], acc, r => .ok acc r
  | x :: xs, acc, r => match tg x r with
    | none => .bad
    | some r1 => (tt r1).andThen fun b r2 => if b then (te r2).andThen fun y r3 => lcGo tg tt te vs xs (acc ++ [y]) (wipeE vs r3) else lcGo tg tt te vs xs acc (wipeE vs r2)
def eLc (it : M (List D)) (tg : Tg) (tt : M Bool) (te : M D) (vs : List Nat) : M D := fun r => (it r).andThen fun xs r1 =>
  if (vs.all fun i => notOwn (r1[i]?)) ∧ xs.length ≤ lim then (match lcGo tg tt te vs xs [] (wipeE vs r1) with
    | .ok ys r2 => .ok (.lst ys) (backE vs r1 r2)
    | _ => .bad)
  else .bad
/-! ### statements -/
def sSet (i : Nat) (a : M D) : M Fl := fun r => (a r).andThen fun x r1 => .ok .nx (r1.set i (.dat x))
def sAsg (g : Tg) (a : M D) : M Fl := fun r => (a r).andThen fun x r1 => match g x r1 with
  | some r2 => .ok .nx r2
  | none => .bad
def sPar (i j : Nat) (a b : M D) : M Fl := fun r => (a r).andThen fun x r1 => (b r1).andThen fun y r2 => .ok .nx ((r2.set i (.dat x)).set j (.dat y))
def sPar3 (i j k : Nat) (a b c : M D) : M Fl := fun r => (a r).andThen fun x r1 => (b r1).andThen fun y r2 => (c r2).andThen fun z r3 => .ok .nx (((r3.set i (.dat x)).set j (.dat y)).set k (.dat z))
def sAug (f : D → D → Option D) (i : Nat) (a : M D) : M Fl := fun r => match r[i]? with
  | some (.dat x) => (a r).andThen fun y r1 => match f x y with
    | some z => .ok .nx (r1.set i (.dat z))
    | none => .bad
  | _ => .bad
def sRet (a : M D) : M Fl := fun r => (a r).andThen fun x r1 => .ok (.ret x) r1
def sExp (a : M D) : M Fl := fun r => (a r).andThen fun _ r1 => .ok .nx r1
def sNil : M Fl := fun r => .ok .nx r
def sSeq (a b : M Fl) : M Fl := fun r => (a r).andThen fun f r1 => match f with
  | .nx => b r1
  | .ret d => .ok (.ret d) r1
def sIf (c : M Bool) (a b : M Fl) : M Fl := fun r => (c r).andThen fun x r1 => if x then a r1 else b r1
def forGo (tg : Tg) (body : M Fl) : List D → En → R Fl
  | [], r => .ok .nx r
  | x :: xs, r => match tg x r with
    | none => .bad
    | some r1 => (body r1).andThen fun f r2 => match f with
      | .nx => forGo tg body xs r2
      | .ret d => .ok (.ret d) r2
def sFor (it : M (List D)) (tg : Tg) (body : M Fl) : M Fl := fun r => (it r).andThen fun xs r1 => forGo tg body xs r1
/-! ### a dict of one's own with tuples of texts as keys -/
def sWhile (c : M Bool) (body : M Fl) : Nat → M Fl
  | 0 => fun _ => .bad
  | n + 1 => fun r => (c r).andThen fun b r1 => if b then (body r1).andThen fun f r2 => match f with
      | .nx => sWhile c body n r2
      | .ret d => .ok (.ret d) r2
    else .ok .nx r1
def sRaise (c : Nat) : M Fl := fun r => .exc c r
/-- x = [a, ..], a list of one's own -/
def sNewL (i : Nat) (as : M (List D)) : M Fl := fun r => (as r).andThen fun xs r1 => .ok .nx (r1.set i (.own xs))
def sApp (i : Nat) (a : M D) : M Fl := fun r => if notOwn r[i]? then .bad else (a r).andThen fun x r1 => match r1[i]? with
  | some (.own ys) => if ys.length < lim then .ok .nx (r1.set i (.own (ys ++ [x]))) else .bad
  | _ => .bad
/-- x[j] = a -/
def sPut (i j : Nat) (a : M D) : M Fl := fun r => (a r).andThen fun x r1 => match r1[i]? with
  | some (.bor ys) => if j < ys.length then .ok .nx (r1.set i (.bor (ys.set j x))) else .bad
  | _ => .bad
/-- from here on the list stays as it is -/
def sFrz (i : Nat) (b : M Fl) : M Fl := fun r => match r[i]? with
  | some (.own ys) => b (r.set i (.dat (.lst ys)))
  | _ => .bad
/-! ### defs -/
def fin0 : R Fl → Ro
  | .ok .nx _ => .ok .non
  | .ok (.ret d) _ => .ok d
  | .exc c _ => .exc c
  | .bad => .bad
def startE (n : Nat) (ds : List D) : En := ds.map .dat ++ List.replicate (n - ds.length) .un
/-- a def of n names, k of them parameters -/
def runD (k n : Nat) (b : M Fl) (ds : List D) : Ro := if ds.length = k then fin0 (b (startE n ds)) else .bad
def finO : R Fl → Rw
  | .ok f r => (match (r[0]? : Option Sl) with
    | some (.bor ys) => (match f with
      | .nx => .ok .non ys
      | .ret d => .ok d ys)
    | _ => .bad)
  | .exc c r => (match (r[0]? : Option Sl) with
    | some (.bor ys) => .exc c ys
    | _ => .bad)
  | .bad => .bad
/-- .. whose first argument is a list that it may change -/
def runO (k n : Nat) (b : M Fl) (xs : List D) (ds : List D) : Rw := if ds.length + 1 = k then finO (b (.bor xs :: startE (n - 1) ds)) else .bad
/-! ### the exceptions of the package -/
def okE (c : Nat) : Bool := decide (1 ≤ c) && decide (c ≤ 8)
def kindE : Nat → List Nat
  | 1 => [73, 110, 118, 97, 108, 105, 100, 66, 111, 97, 114, 100]
  | 2 => [73, 110, 118, 97, 108, 105, 100, 67, 101, 108, 108]
  | 3 => [73, 110, 118, 97, 108, 105, 100, 67, 101, 108, 108, 115]
  | 4 => [73, 110, 118, 97, 108, 105, 100, 84, 105, 99, 107, 115]
  | 5 => [73, 110, 118, 97, 108, 105, 100, 84, 101, 120, 116]
  | 6 => [84, 111, 111, 76, 97, 114, 103, 101]
  | 7 => [85, 110, 108, 105, 107, 101]
  | 8 => [78, 111, 116, 104, 105, 110, 103, 84, 111, 85, 110, 100, 111]
  | _ => []
end FB
/-! The bridge: plain data in the machine's heap. -/
namespace FB
open PySem PySem.Spec L2
abbrev St := L2.St
/-- a text, a truth value -/
inductive Flat : V → D → Prop
  | str (x : Str) : x.cps.size ≤ lim → PyData.strOk x = true → Flat (.str x) (.str x.cps.toList)
  | bl (b : Bool) : Flat (.bl b) (.bl b)
/-- a dict's keys and values: texts; tuples of texts -/
inductive DicK : List (L2.Key × V) → List D → List D → Prop
  | nil : DicK [] [] []
  | cons {x : Str} {v : V} {d : D} {kvs : List (L2.Key × V)} {ks vs : List D} : Flat v d → DicK kvs ks vs → DicK ((.inr x, v) :: kvs) (.str x.cps.toList :: ks) (d :: vs)
inductive DicT : List (List L2.Key × V) → List D → List D → Prop
  | nil : DicT [] [] []
  | cons {xs : List Str} {v : V} {d : D} {kvs : List (List L2.Key × V)} {ks vs : List D} : Flat v d → DicT kvs ks vs → DicT ((xs.map Sum.inr, v) :: kvs) (.tup (xs.map fun x => .str x.cps.toList) :: ks) (d :: vs)
mutual
inductive Dv (K : PySem.W.Frag) (F : Hp) : V → D → Prop
  | non : Dv K F .non .non
  | bl (b : Bool) : Dv K F (.bl b) (.bl b)
  | int (i : Int) : Dv K F (.int i) (.int i)
  | str (x : Str) : x.cps.size ≤ lim → PyData.strOk x = true → Dv K F (.str x) (.str x.cps.toList)
  | lst {a : Addr} {vs : List V} {ds : List D} : F a = some (.lst vs) → Dvs K F vs ds → Dv K F (.ref a) (.lst ds)
  | tup {a : Addr} {vs : List V} {ds : List D} : F a = some (.tup vs) → Dvs K F vs ds → Dv K F (.ref a) (.tup ds)
  | fz {a : Addr} {ns : List Int} : SqL K F a (ns.map V.int) → Dv K F (.ref a) (.fz ns)
  | opq (a : Addr) : Dv K F (.ref a) (.opq a)
  | dk {a : Addr} {kvs : List (L2.Key × V)} {ks us : List D} : F a = some (.dK kvs) → DicK kvs ks us → Dv K F (.ref a) (.dic ks us)
  | dt {a : Addr} {kvs : List (List L2.Key × V)} {ks us : List D} : F a = some (.dT kvs) → DicT kvs ks us → Dv K F (.ref a) (.dic ks us)
inductive Dvs (K : PySem.W.Frag) (F : Hp) : List V → List D → Prop
  | nil : Dvs K F [] []
  | cons {v : V} {vs : List V} {d : D} {ds : List D} : Dv K F v d → Dvs K F vs ds → Dvs K F (v :: vs) (d :: ds)
end
section
variable {K : PySem.W.Frag} {F F' H : Hp}
mutual
theorem Dv.mono (s : Same F F') : ∀ {v : V} {d : D}, Dv K F v d → Dv K F' v d
  | _, _, .non => .non
  | _, _, .bl b => .bl b
  | _, _, .int i => .int i
  | _, _, .str x h1 h2 => .str x h1 h2
  | _, _, .lst h t => .lst (s _ _ h) (Dvs.mono s t)
  | _, _, .tup h t => .tup (s _ _ h) (Dvs.mono s t)
  | _, _, .fz h => .fz (s.seq h)
  | _, _, .opq a => .opq a
  | _, _, .dk h t => .dk (s _ _ h) t
  | _, _, .dt h t => .dt (s _ _ h) t
theorem Dvs.mono (s : Same F F') : ∀ {vs : List V} {ds : List D}, Dvs K F vs ds → Dvs K F' vs ds
  | _, _, .nil => .nil
  | _, _, .cons h t => .cons (Dv.mono s h) (Dvs.mono s t)
end
theorem Dvs.len : ∀ {vs : List V} {ds : List D}, Dvs K F vs ds → vs.length = ds.length
  | _, _, .nil => rfl
  | _, _, .cons _ t => by rw [List.length_cons, List.length_cons, t.len]
theorem Dvs.get : ∀ {vs : List V} {ds : List D} {i : Nat} {d : D}, Dvs K F vs ds → ds[i]? = some d → ∃ v, vs[i]? = some v ∧ Dv K F v d
  | _, _, _, _, .nil, h => by simp at h
  | _, _, 0, _, .cons h _, e => by
    have e' := Option.some.inj e
    subst e'
    exact ⟨_, rfl, h⟩
  | _, _, i + 1, d, .cons _ t, e => Dvs.get (i := i) (d := d) t e
theorem Dvs.append : ∀ {vs ws : List V} {ds es : List D}, Dvs K F vs ds → Dvs K F ws es → Dvs K F (vs ++ ws) (ds ++ es)
  | _, _, _, _, .nil, h => h
  | _, _, _, _, .cons a t, h => .cons a (t.append h)
theorem Dvs.set : ∀ {vs : List V} {ds : List D} {v : V} {d : D} (j : Nat), Dvs K F vs ds → Dv K F v d → Dvs K F (vs.set j v) (ds.set j d)
  | _, _, _, _, _, .nil, _ => .nil
  | _, _, _, _, 0, .cons _ t, h => .cons h t
  | _, _, _, _, j + 1, .cons a t, h => .cons a (t.set j h)
def D.py : D → PyData
  | .non => .none
  | .bl b => .bool b
  | .int i => .int i
  | .str s => .str ⟨s.toArray⟩
  | .lst xs => .list (go xs)
  | .tup xs => .tuple (go xs)
  | .fz ns => .list (ns.map .int)
  | .opq _ => .none
  | .dic _ _ => .none
where go : List D → List PyData
  | [] => []
  | x :: xs => D.py x :: go xs
theorem fzAll : ∀ (ns : List Int), DpAll K H (ns.map V.int) (ns.map PyData.int)
  | [] => .nil
  | n :: r => .cons (.int n) (fzAll r)
theorem py_str (x : Str) : (D.str x.cps.toList).py = .str x := by
  show PyData.str ⟨x.cps.toList.toArray⟩ = .str x
  rw [Array.toArray_toList]
mutual
theorem Dv.dp (s : Same F H) : ∀ {v : V} {d : D}, Dv K F v d → d.dep ≤ 160 → Dp K H v d.py
  | _, _, .non, _ => .non
  | _, _, .bl b, _ => .bl b
  | _, _, .int i, _ => .int i
  | _, _, .str x _ _, _ => by
    rw [py_str]
    exact .str x
  | _, _, .lst h t, hd => .lst (SqL.of (s _ _ h)) (Dvs.dp s t (by simp only [D.dep] at hd; omega))
  | _, _, .tup h t, hd => .tup (SqT.of (s _ _ h)) (Dvs.dp s t (by simp only [D.dep] at hd; omega))
  | _, _, .fz h, _ => .lst (s.seq h) (fzAll _)
  | _, _, .opq _, hd => by simp [D.dep] at hd
  | _, _, .dk _ _, hd => by simp [D.dep] at hd
  | _, _, .dt _ _, hd => by simp [D.dep] at hd
theorem Dvs.dp (s : Same F H) : ∀ {vs : List V} {ds : List D}, Dvs K F vs ds → D.depL ds ≤ 160 → DpAll K H vs (D.py.go ds)
  | _, _, .nil, _ => .nil
  | _, _, .cons h t, hd => by
    have hd := hd
    simp only [D.depL] at hd
    exact .cons (Dv.dp s h (by omega)) (Dvs.dp s t (by omega))
end
/-! ### equality -/
theorem arr_beq (x y : List Nat) : ((⟨x.toArray⟩ : Str) == ⟨y.toArray⟩) = (x == y) := by
  rw [Bool.eq_iff_iff]
  simp
mutual
theorem eqv_py : ∀ (d e : D), d.dep ≤ 60 → e.dep ≤ 60 → PyData.eqv d.py e.py = D.eqv d e
  | .str x, .str y, _, _ => by
    show ((⟨x.toArray⟩ : Str) == ⟨y.toArray⟩) = (x == y)
    exact arr_beq x y
  | .lst xs, .lst ys, h, h' => by
    have a : D.depL xs ≤ 60 := by have := h; simp only [D.dep] at this; omega
    have b : D.depL ys ≤ 60 := by have := h'; simp only [D.dep] at this; omega
    simp only [D.py, PyData.eqv, D.eqv]
    exact eqvL_py xs ys a b
  | .tup xs, .tup ys, h, h' => by
    have a : D.depL xs ≤ 60 := by have := h; simp only [D.dep] at this; omega
    have b : D.depL ys ≤ 60 := by have := h'; simp only [D.dep] at this; omega
    simp only [D.py, PyData.eqv, D.eqv]
    exact eqvL_py xs ys a b
  | .fz _, _, h, _ | .opq _, _, h, _ | .dic _ _, _, h, _ => by simp [D.dep] at h
  | .non, .opq _, _, h | .bl _, .opq _, _, h | .int _, .opq _, _, h | .str _, .opq _, _, h | .lst _, .opq _, _, h | .tup _, .opq _, _, h => by simp [D.dep] at h
  | .non, .dic _ _, _, h | .bl _, .dic _ _, _, h | .int _, .dic _ _, _, h | .str _, .dic _ _, _, h | .lst _, .dic _ _, _, h | .tup _, .dic _ _, _, h => by simp [D.dep] at h
  | .non, .fz _, _, h | .bl _, .fz _, _, h | .int _, .fz _, _, h | .str _, .fz _, _, h | .lst _, .fz _, _, h | .tup _, .fz _, _, h => by simp [D.dep] at h
  | .non, .non, _, _ | .non, .bl _, _, _ | .non, .int _, _, _ | .non, .str _, _, _ | .non, .lst _, _, _ | .non, .tup _, _, _ => by simp [D.py, PyData.eqv, D.eqv]
  | .bl _, .non, _, _ | .bl _, .bl _, _, _ | .bl _, .int _, _, _ | .bl _, .str _, _, _ | .bl _, .lst _, _, _ | .bl _, .tup _, _, _ => by simp [D.py, PyData.eqv, D.eqv]
  | .int _, .non, _, _ | .int _, .bl _, _, _ | .int _, .int _, _, _ | .int _, .str _, _, _ | .int _, .lst _, _, _ | .int _, .tup _, _, _ => by simp [D.py, PyData.eqv, D.eqv]
  | .str _, .non, _, _ | .str _, .bl _, _, _ | .str _, .int _, _, _ | .str _, .lst _, _, _ | .str _, .tup _, _, _ => by simp [D.py, PyData.eqv, D.eqv]
  | .lst _, .non, _, _ | .lst _, .bl _, _, _ | .lst _, .int _, _, _ | .lst _, .str _, _, _ | .lst _, .tup _, _, _ => by simp [D.py, PyData.eqv, D.eqv]
  | .tup _, .non, _, _ | .tup _, .bl _, _, _ | .tup _, .int _, _, _ | .tup _, .str _, _, _ | .tup _, .lst _, _, _ => by simp [D.py, PyData.eqv, D.eqv]
theorem eqvL_py : ∀ (xs ys : List D), D.depL xs ≤ 60 → D.depL ys ≤ 60 → PyData.eqvAll (D.py.go xs) (D.py.go ys) = D.eqvL xs ys
  | [], [], _, _ => by simp [D.py.go, PyData.eqvAll, D.eqvL]
  | [], _ :: _, _, _ => by simp [D.py.go, PyData.eqvAll, D.eqvL]
  | _ :: _, [], _, _ => by simp [D.py.go, PyData.eqvAll, D.eqvL]
  | x :: xs, y :: ys, h, h' => by
    have h1 : max (D.dep x) (D.depL xs) ≤ 60 := by simpa only [D.depL] using h
    have h2 : max (D.dep y) (D.depL ys) ≤ 60 := by simpa only [D.depL] using h'
    simp only [D.py.go, PyData.eqvAll, D.eqvL]
    rw [eqv_py x y (by omega) (by omega), eqvL_py xs ys (by omega) (by omega)]
end
mutual
theorem dep_py : ∀ (d : D), d.dep ≤ 60 → d.py.depth = d.dep
  | .non, _ | .bl _, _ | .int _, _ | .str _, _ => by simp [D.py, PyData.depth, D.dep]
  | .fz _, h | .opq _, h | .dic _ _, h => by simp [D.dep] at h
  | .lst xs, h => by
    simp only [D.dep] at h
    simp only [D.py, PyData.depth, D.dep]
    rw [depL_py xs (by omega)]
  | .tup xs, h => by
    simp only [D.dep] at h
    simp only [D.py, PyData.depth, D.dep]
    rw [depL_py xs (by omega)]
theorem depL_py : ∀ (xs : List D), D.depL xs ≤ 60 → PyData.depthAll (D.py.go xs) = D.depL xs
  | [], _ => by simp [D.py.go, PyData.depthAll, D.depL]
  | x :: xs, h => by
    have h1 : max (D.dep x) (D.depL xs) ≤ 60 := by simpa only [D.depL] using h
    simp only [D.py.go, PyData.depthAll, D.depL]
    rw [dep_py x (by omega), depL_py xs (by omega)]
end
theorem lay_ints : ∀ ns : List Int, PyData.canLayAll0 (ns.map PyData.int) = true
  | [] => by simp [PyData.canLayAll0]
  | n :: r => by
    have ih := lay_ints r
    simpa [PyData.canLayAll0, PyData.canLay0] using ih
mutual
theorem Dv.lay : ∀ {v : V} {d : D}, Dv K F v d → d.py.canLay0 = true
  | _, _, .non => by simp [D.py, PyData.canLay0]
  | _, _, .bl b => by simp [D.py, PyData.canLay0]
  | _, _, .int i => by simp [D.py, PyData.canLay0]
  | _, _, .str x _ h => by
    rw [py_str]
    simpa [PyData.canLay0] using h
  | _, _, .lst _ t => by
    simp only [D.py, PyData.canLay0]
    exact Dvs.lay t
  | _, _, .tup _ t => by
    simp only [D.py, PyData.canLay0]
    exact Dvs.lay t
  | _, _, .fz (ns := ns) _ => by
    simp only [D.py, PyData.canLay0]
    exact lay_ints ns
  | _, _, .opq _ => by simp [D.py, PyData.canLay0]
  | _, _, .dk _ _ => by simp [D.py, PyData.canLay0]
  | _, _, .dt _ _ => by simp [D.py, PyData.canLay0]
theorem Dvs.lay : ∀ {vs : List V} {ds : List D}, Dvs K F vs ds → PyData.canLayAll0 (D.py.go ds) = true
  | _, _, .nil => by simp [D.py.go, PyData.canLayAll0]
  | _, _, .cons h t => by
    simp only [D.py.go, PyData.canLayAll0, Bool.and_eq_true]
    exact ⟨h.lay, t.lay⟩
end
theorem Dv.shaped {v : V} {d : D} (h : Dv K F v d) (hd : d.dep ≤ 60) : SeqAt.shaped d.py = true := by
  unfold SeqAt.shaped
  rw [h.lay, dep_py d hd, Bool.true_and]
  exact decide_eq_true (by omega)
end
/-! ### the state -/
structure Bs where
  O : Addr → Prop
  F : Hp
  H : Hp
def NoT (o : HO) : Prop := ∀ ps, o ≠ .tbl ps
theorem not_lst {xs : List V} : NoT (.lst xs) := fun _ h => nomatch h
theorem not_tup {xs : List V} : NoT (.tup xs) := fun _ h => nomatch h
/-- no table among the data -/
def NT (F : Hp) : Prop := ∀ b o, F b = some o → NoT o
structure Ext (T : List (Addr × Str)) (B : Bs) (F H : Hp) : Prop where
  ff : Same B.F F
  sub : Same F H
  hh : ∀ b o, B.H b = some o → NoT o → ¬ B.O b → H b = some o
  nf : ∀ b o, B.H b = some o → NoT o → B.F b = none → F b = none
  ob : ∀ b, B.O b → ∃ o, H b = some o ∧ NoT o ∧ F b = none
  tb : LamX.Tabs T H
  nt : NT F
theorem NT.upd {F : Hp} (h : NT F) {p : Addr} {o : HO} (n : NoT o) : NT (upd F p o) := fun b u e => by
  by_cases hb : b = p
  · subst hb
    rw [upd_same] at e
    cases e
    exact n
  · rw [upd_ne hb] at e
    exact h b u e
def Fresh (B : Bs) (p : Addr) : Prop := ∀ o, B.H p = some o → ¬ NoT o
structure Rep (T : List (Addr × Str)) (K : PySem.W.Frag) (B : Bs) (r : En) (σ : St) (F H : Hp) : Prop where
  ext : Ext T B F H
  len : r.length = σ.length
  dat : ∀ (i : Nat) d, r[i]? = some (.dat d) → ∃ v, σ[i]? = some (some v) ∧ Dv K F v d
  own : ∀ (i : Nat) xs, r[i]? = some (.own xs) → ∃ p vs, σ[i]? = some (some (.ref p)) ∧ H p = some (.lst vs) ∧ F p = none ∧ Dvs K F vs xs ∧ (Fresh B p ∧ ¬ B.O p)
  bor : ∀ (i : Nat) xs, r[i]? = some (.bor xs) → ∃ p vs, σ[i]? = some (some (.ref p)) ∧ H p = some (.lst vs) ∧ F p = none ∧ Dvs K F vs xs ∧ B.O p
  apart : ∀ (i j : Nat) p, notOwn r[i]? = false → notOwn r[j]? = false → σ[i]? = some (some (.ref p)) → σ[j]? = some (some (.ref p)) → i = j
section
variable {T : List (Addr × Str)} {K : PySem.W.Frag} {B : Bs} {r : En} {σ : St} {F H F' H' : Hp}
theorem same_upd {H : Hp} {p : Addr} {o : HO} (h : H p = none) : Same H (upd H p o) := fun b x e => by
  rw [upd_ne (ne_of_none e h)]
  exact e
theorem same_both {p : Addr} {o : HO} (s : Same F H) : Same (upd F p o) (upd H p o) := fun b x e => by
  by_cases hb : b = p
  · subst hb
    rw [upd_same] at e ⊢
    exact e
  · rw [upd_ne hb] at e ⊢
    exact s _ _ e
theorem Ext.refl {O : Addr → Prop} (s : Same F H) (t : LamX.Tabs T H) (n : NT F) (ho : ∀ b, O b → ∃ o, H b = some o ∧ NoT o ∧ F b = none) : Ext T ⟨O, F, H⟩ F H :=
  ⟨Same.refl _, s, fun _ _ h _ _ => h, fun _ _ _ _ h => h, ho, t, n⟩
/-- a step from F, H on, in which the lists at O' may change -/
theorem Ext.comp {O' : Addr → Prop} (e : Ext T B F H) (e' : Ext T ⟨O', F, H⟩ F' H') (ho : ∀ b, O' b → B.O b ∨ Fresh B b) : Ext T B F' H' where
  ff := e.ff.trans e'.ff
  sub := e'.sub
  hh := fun b o h n no => e'.hh b o (e.hh b o h n no) n fun z => (ho b z).elim no fun q => q o h n
  nf := fun b o h n hf => by
    have f1 := e.nf b o h n hf
    by_cases hb : B.O b
    · obtain ⟨o', h1, n1, _⟩ := e.ob b hb
      exact e'.nf b o' h1 n1 f1
    · exact e'.nf b o (e.hh b o h n hb) n f1
  ob := fun b hb => by
    obtain ⟨o', h1, n1, f1⟩ := e.ob b hb
    by_cases hb' : O' b
    · exact e'.ob b hb'
    · exact ⟨o', e'.hh b o' h1 n1 hb', n1, e'.nf b o' h1 n1 f1⟩
  tb := e'.tb
  nt := e'.nt
theorem Ext.fresh (e : Ext T B F H) {p : Addr} {o : HO} (hp : H p = none) (n : NoT o) : Ext T B (upd F p o) (upd H p o) where
  ff := e.ff.trans (same_upd (e.sub.free hp))
  sub := same_both e.sub
  hh := fun b u h nu no => by
    have z := e.hh b u h nu no
    rw [upd_ne (ne_of_none z hp)]
    exact z
  nf := fun b u h nu hf => by
    have hb : b ≠ p := fun z => by
      subst z
      by_cases hO : B.O b
      · obtain ⟨o', h1, _⟩ := e.ob b hO
        rw [hp] at h1
        cases h1
      · have z := e.hh b u h nu hO
        rw [hp] at z
        cases z
    rw [upd_ne hb]
    exact e.nf b u h nu hf
  ob := fun b hb => by
    obtain ⟨o', h1, n1, f1⟩ := e.ob b hb
    have hne := ne_of_none h1 hp
    exact ⟨o', by rw [upd_ne hne]; exact h1, n1, by rw [upd_ne hne]; exact f1⟩
  tb := e.tb.ext (same_upd hp)
  nt := e.nt.upd n
/-- .. not of the data -/
theorem Ext.fresh' (e : Ext T B F H) {p : Addr} {o : HO} (hp : H p = none) : Ext T B F (upd H p o) where
  ff := e.ff
  sub := e.sub.trans (same_upd hp)
  hh := fun b u h nu no => by
    have z := e.hh b u h nu no
    rw [upd_ne (ne_of_none z hp)]
    exact z
  nf := e.nf
  ob := fun b hb => by
    obtain ⟨o', h1, n1, f1⟩ := e.ob b hb
    exact ⟨o', by rw [upd_ne (ne_of_none h1 hp)]; exact h1, n1, f1⟩
  tb := e.tb.ext (same_upd hp)
  nt := e.nt
theorem Rep.fresh (h : Rep T K B r σ F H) {p : Addr} {o : HO} (hp : H p = none) (n : NoT o) : Rep T K B r σ (upd F p o) (upd H p o) where
  ext := h.ext.fresh hp n
  len := h.len
  dat := fun i d e => by
    obtain ⟨v, h1, h2⟩ := h.dat i d e
    exact ⟨v, h1, h2.mono (same_upd (h.ext.sub.free hp))⟩
  own := fun i xs e => by
    obtain ⟨q, vs, h1, h2, h3, h4, h5⟩ := h.own i xs e
    have hne := ne_of_none h2 hp
    exact ⟨q, vs, h1, by rw [upd_ne hne]; exact h2, by rw [upd_ne hne]; exact h3, h4.mono (same_upd (h.ext.sub.free hp)), h5⟩
  bor := fun i xs e => by
    obtain ⟨q, vs, h1, h2, h3, h4, h5⟩ := h.bor i xs e
    have hne := ne_of_none h2 hp
    exact ⟨q, vs, h1, by rw [upd_ne hne]; exact h2, by rw [upd_ne hne]; exact h3, h4.mono (same_upd (h.ext.sub.free hp)), h5⟩
  apart := h.apart
theorem Rep.fresh' (h : Rep T K B r σ F H) {p : Addr} {o : HO} (hp : H p = none) : Rep T K B r σ F (upd H p o) where
  ext := h.ext.fresh' hp
  len := h.len
  dat := h.dat
  own := fun i xs e => by
    obtain ⟨q, vs, h1, h2, h3, h4, h5⟩ := h.own i xs e
    exact ⟨q, vs, h1, by rw [upd_ne (ne_of_none h2 hp)]; exact h2, h3, h4, h5⟩
  bor := fun i xs e => by
    obtain ⟨q, vs, h1, h2, h3, h4, h5⟩ := h.bor i xs e
    exact ⟨q, vs, h1, by rw [upd_ne (ne_of_none h2 hp)]; exact h2, h3, h4, h5⟩
  apart := h.apart
/-- behind a call that changes nothing -/
theorem Rep.call (h : Rep T K B r σ F H) (e : Ext T ⟨fun _ => False, F, H⟩ F' H') : Rep T K B r σ F' H' where
  ext := h.ext.comp e fun _ z => z.elim
  len := h.len
  dat := fun i d q => by
    obtain ⟨v, h1, h2⟩ := h.dat i d q
    exact ⟨v, h1, h2.mono e.ff⟩
  own := fun i xs q => by
    obtain ⟨p, vs, h1, h2, h3, h4, h5⟩ := h.own i xs q
    exact ⟨p, vs, h1, e.hh p _ h2 not_lst (fun z => z), e.nf p _ h2 not_lst h3, h4.mono e.ff, h5⟩
  bor := fun i xs q => by
    obtain ⟨p, vs, h1, h2, h3, h4, h5⟩ := h.bor i xs q
    exact ⟨p, vs, h1, e.hh p _ h2 not_lst (fun z => z), e.nf p _ h2 not_lst h3, h4.mono e.ff, h5⟩
  apart := h.apart
theorem Rep.free (h : Rep T K B r σ F H) {p : Addr} (hp : H p = none) : F p = none := h.ext.sub.free hp
end
/-! ### judgements -/
section
variable (T : List (Addr × Str)) (cv : Nat → Value)
/-- what is wanted behind a run -/
def Po {α β : Type} (Rel : Hp → β → α → Prop) (K : PySem.W.Frag) (B : Bs) (σ : St) (F : Hp) (E : XK) (Q : β → Hp → Prop) : R α → Prop
  | .ok a r => ∀ F' H' v, Same F F' → Rep T K B r σ F' H' → Rel F' v a → Q v H'
  | .exc c r => ∀ F' H', Same F F' → Rep T K B r σ F' H' → E (cv c) none H'
  | .bad => False
abbrev PoE (K : PySem.W.Frag) := Po T cv (Dv K) K
abbrev PoA (K : PySem.W.Frag) := Po T cv (Dvs K) K
abbrev PoT (K : PySem.W.Frag) := Po T cv (fun _ (b b' : Bool) => b = b') K
def DE (X : Cx) (E : XK) (e : Expr) (f : M D) : Prop := ∃ t, PE X e t ∧ ∀ B r σ F H Q, Rep T X.K B r σ F H → PoE T cv X.K B σ F E Q (f r) → t σ H Q
def DT (X : Cx) (E : XK) (e : Expr) (f : M Bool) : Prop := ∃ t, PT X e t ∧ ∀ B r σ F H Q, Rep T X.K B r σ F H → PoT T cv X.K B σ F E Q (f r) → t σ H Q
def DW (X : Cx) (E : XK) (e : Expr) (f : M Bool) : Prop := ∃ t, PW X e t ∧ ∀ B r σ F H Q, Rep T X.K B r σ F H → PoT T cv X.K B σ F E Q (f r) → t σ H Q
def DA (X : Cx) (E : XK) (es : List Expr) (f : M (List D)) : Prop := ∃ t, PA X es t ∧ ∀ B r σ F H Q, Rep T X.K B r σ F H → PoA T cv X.K B σ F E Q (f r) → t σ H Q
end
section
variable {T : List (Addr × Str)} {cv : Nat → Value} {K : PySem.W.Frag} {B : Bs} {r : En} {σ : St} {F F1 H : Hp} {E : XK}
theorem Po.from {α β : Type} {Rel : Hp → β → α → Prop} {Q : β → Hp → Prop} {x : R α} (s : Same F F1) (h : Po T cv Rel K B σ F E Q x) : Po T cv Rel K B σ F1 E Q x := by
  cases x with
  | ok a r => exact fun F' H' v s' => h F' H' v (s.trans s')
  | exc c r => exact fun F' H' s' => h F' H' (s.trans s')
  | bad => exact h
theorem Po.bind {α β γ δ : Type} {RA : Hp → β → α → Prop} {RC : Hp → δ → γ → Prop} {Q1 : β → Hp → Prop} {Q : δ → Hp → Prop} {x : R α} {f : α → En → R γ}
    (h : Po T cv RC K B σ F E Q (x.andThen f))
    (k : ∀ a r F1 H1 v, x = .ok a r → Same F F1 → Rep T K B r σ F1 H1 → RA F1 v a → Po T cv RC K B σ F1 E Q (f a r) → Q1 v H1) : Po T cv RA K B σ F E Q1 x := by
  cases x with
  | ok a r => exact fun F' H' v s rep rel => k a r F' H' v rfl s rep rel (Po.from s h)
  | exc c r => exact h
  | bad => exact h
theorem Po.lift {α β : Type} {Rel : Hp → β → α → Prop} {Q : β → Hp → Prop} {o : Option α} (h : Po T cv Rel K B σ F E Q (R.lift o r)) : ∃ a, o = some a ∧ ∀ F' H' v, Same F F' → Rep T K B r σ F' H' → Rel F' v a → Q v H' := by
  cases o with
  | none => exact h.elim
  | some a => exact ⟨a, rfl, h⟩
end
section
variable {T : List (Addr × Str)} {cv : Nat → Value} {X : Cx} {E : XK} {e a b c : Expr} {es : List Expr} {pos : Pos} {fa fb fc : M D} {fs : M (List D)}
/-! ### names, constants -/
theorem de_v (i : Nat) {x : Str} (hN : X.N[i]? = some x := by rfl) (hv : Vis X.env.scope x := by first | exact Or.inl rfl | exact Or.inr (Or.inl rfl) | exact Or.inr (Or.inr rfl)) (hd : (x == ("__debug__" : Str)) = false := by decide)
    (hcd : (x == ("__classdict__" : Str)) = false := by decide) : DE T cv X E (.Name x pos) (eV i) := by
  refine ⟨_, pe_var hN hv hd hcd, fun B r σ F H Q rep h => ?_⟩
  unfold eV at h
  split at h
  · rename_i d hd
    obtain ⟨v, h1, h2⟩ := rep.dat i d hd
    exact ⟨v, h1, h F H v (Same.refl _) rep h2⟩
  · exact h.elim
theorem de_int {i : Int} {j : Nat} : DE T cv X E (.Constant (.int i) j pos) (eC (.int i)) := ⟨_, pe_int, fun B r σ F H Q rep h => h F H _ (Same.refl _) rep (.int i)⟩
theorem de_bl {b : Bool} {j : Nat} : DE T cv X E (.Constant (.bool b) j pos) (eC (.bl b)) := ⟨_, pe_bl, fun B r σ F H Q rep h => h F H _ (Same.refl _) rep (.bl b)⟩
theorem de_non {j : Nat} : DE T cv X E (.Constant .none j pos) (eC .non) := ⟨_, pe_non, fun B r σ F H Q rep h => h F H _ (Same.refl _) rep .non⟩
/-- a written text -/
structure Tx (x : Str) (s : List Nat) : Prop where
  eq : x.cps.toList = s
  sz : x.cps.size ≤ lim
  ok : PyData.strOk x = true
theorem Tx.dv {K : PySem.W.Frag} {F : Hp} {x : Str} {s : List Nat} (h : Tx x s) : Dv K F (.str x) (.str s) := by
  rw [← h.eq]
  exact .str x h.sz h.ok
theorem de_str {x : Str} {s : List Nat} {j : Nat} (h : Tx x s) : DE T cv X E (.Constant (.str x) j pos) (eC (.str s)) := ⟨_, pe_str, fun B r σ F H Q rep q => q F H _ (Same.refl _) rep h.dv⟩
/-! ### operators -/
/-- a rule by values serves a function of data -/
def Op2 (T : List (Addr × Str)) (K : PySem.W.Frag) (rr : R2) (f : D → D → Option D) : Prop :=
  ∀ B r σ F H x y d e z (Q : VK), Rep T K B r σ F H → Dv K F x d → Dv K F y e → f d e = some z → (∀ F' H' v, Same F F' → Rep T K B r σ F' H' → Dv K F' v z → Q v H') → rr x y H Q
def OpN (T : List (Addr × Str)) (K : PySem.W.Frag) (rr : List V → Hp → VK → Prop) (f : List D → Option D) : Prop :=
  ∀ B r σ F H xs ds z (Q : VK), Rep T K B r σ F H → Dvs K F xs ds → f ds = some z → (∀ F' H' v, Same F F' → Rep T K B r σ F' H' → Dv K F' v z → Q v H') → rr xs H Q
theorem tOp_ok {rr : R2} {f : D → D → Option D} {ta tb : TE} (o : Op2 T X.K rr f) (ha : ∀ B r σ F H Q, Rep T X.K B r σ F H → PoE T cv X.K B σ F E Q (fa r) → ta σ H Q) (hb : ∀ B r σ F H Q, Rep T X.K B r σ F H → PoE T cv X.K B σ F E Q (fb r) → tb σ H Q) :
    ∀ B r σ F H Q, Rep T X.K B r σ F H → PoE T cv X.K B σ F E Q (e2 f fa fb r) → tOp rr ta tb σ H Q := fun B r σ F H Q rep h => by
  refine ha B r σ F H _ rep (Po.bind h fun d r1 F1 H1 x _ s1 rep1 dx h1 => ?_)
  refine hb B r1 σ F1 H1 _ rep1 (Po.bind h1 fun e r2 F2 H2 y _ s2 rep2 dy h2 => ?_)
  obtain ⟨z, ez, q⟩ := h2.lift
  exact o B r2 σ F2 H2 x y d e z Q rep2 (dx.mono s2) dy ez q
theorem de_bin {op : Operator} {rr : R2} {f : D → D → Option D} (ho : OpR X (binaryOp op) rr) (o : Op2 T X.K rr f) (ha : DE T cv X E a fa) (hb : DE T cv X E b fb) : DE T cv X E (.BinOp a op b pos) (e2 f fa fb) := by
  obtain ⟨ta, pa, qa⟩ := ha
  obtain ⟨tb, pb, qb⟩ := hb
  exact ⟨_, pe_op ho pa pb, tOp_ok o qa qb⟩
theorem de_cmp {op : CmpOp} {rr : R2} {f : D → D → Option D} (ho : OpR X (compareOp op) rr) (o : Op2 T X.K rr f) (hm : behindInMarks op b = false) (ha : DE T cv X E a fa) (hb : DE T cv X E b fb) : DE T cv X E (.Compare a [op] [b] pos) (e2 f fa fb) := by
  obtain ⟨ta, pa, qa⟩ := ha
  obtain ⟨tb, pb, qb⟩ := hb
  exact ⟨_, pe_cmpR ho pa pb hm, tOp_ok o qa qb⟩
theorem de_ix (ha : DE T cv X E a fa) (hb : DE T cv X E b fb) {rr : R2} {f : D → D → Option D} (hr : IxR X rr) (o : Op2 T X.K rr f) (hs : PlainIx b) : DE T cv X E (.Subscript a b pos) (e2 f fa fb) := by
  obtain ⟨ta, pa, qa⟩ := ha
  obtain ⟨tb, pb, qb⟩ := hb
  exact ⟨_, pe_ix hr pa pb hs, tOp_ok o qa qb⟩
/-- a op b op' c -/
theorem tCh_ok {rr rr' : R2} {f g : D → D → Option D} {ta tb tc : TE} (o : Op2 T X.K rr f) (o' : Op2 T X.K rr' g) (qa : ∀ B r σ F H Q, Rep T X.K B r σ F H → PoE T cv X.K B σ F E Q (fa r) → ta σ H Q) (qb : ∀ B r σ F H Q, Rep T X.K B r σ F H → PoE T cv X.K B σ F E Q (fb r) → tb σ H Q)
    (qc : ∀ B r σ F H Q, Rep T X.K B r σ F H → PoE T cv X.K B σ F E Q (fc r) → tc σ H Q) : ∀ B r σ F H Q, Rep T X.K B r σ F H → PoE T cv X.K B σ F E Q (eCh f g fa fb fc r) → tChain rr rr' ta tb tc σ H Q := fun B r σ F H Q rep h => by
  refine qa B r σ F H _ rep (Po.bind h fun d r1 F1 H1 x _ s1 rep1 dx h1 => ?_)
  refine qb B r1 σ F1 H1 _ rep1 (Po.bind h1 fun e r2 F2 H2 y _ s2 rep2 dy h2 => ?_)
  cases ez : f d e with
  | none =>
    rw [ez] at h2
    exact h2.elim
  | some z =>
    rw [ez] at h2
    refine o B r2 σ F2 H2 x y d e z _ rep2 (dx.mono s2) dy ez fun F3 H3 v s3 rep3 dv => ?_
    cases z with
    | bl k =>
      cases dv
      cases k with
      | true =>
        refine ⟨true, rfl, iteT ?_⟩
        refine qc B r2 σ F3 H3 _ rep3 (Po.bind (Po.from s3 h2) fun w r4 F4 H4 u _ s4 rep4 dw h4 => ?_)
        obtain ⟨z, ez, q⟩ := h4.lift
        exact o' B r4 σ F4 H4 y u e w z Q rep4 ((dy.mono s3).mono s4) dw ez q
      | false => exact ⟨false, rfl, iteF (h2 F3 H3 _ s3 rep3 (.bl false))⟩
    | _ => exact h2.elim
theorem de_chain {op op' : CmpOp} {rr rr' : R2} {f g : D → D → Option D} (ho : OpR X (compareOp op) rr) (ho' : OpR X (compareOp op') rr') (o : Op2 T X.K rr f) (o' : Op2 T X.K rr' g) (ha : DE T cv X E a fa) (hb : DE T cv X E b fb) (hc : DE T cv X E c fc)
    (hm : lastMarks [op, op'] [b, c] = false := by with_unfolding_all rfl) : DE T cv X E (.Compare a [op, op'] [b, c] pos) (eCh f g fa fb fc) := by
  obtain ⟨ta, pa, qa⟩ := ha
  obtain ⟨tb, pb, qb⟩ := hb
  obtain ⟨tc, pc, qc⟩ := hc
  exact ⟨_, pe_chain ho ho' pa pb pc hm, tCh_ok o o' qa qb qc⟩
/-! ### arguments, displays, calls -/
theorem da_nil : DA T cv X E [] aN := ⟨_, pa_nil, fun B r σ F H Q rep h => h F H _ (Same.refl _) rep .nil⟩
theorem da_cons (ha : DE T cv X E e fa) (hr : DA T cv X E es fs) (hs : starEach (e :: es) X.env = (false, eval e X.env) :: starEach es X.env := by rfl) : DA T cv X E (e :: es) (aC fa fs) := by
  obtain ⟨ta, pa, qa⟩ := ha
  obtain ⟨tr, pr, qr⟩ := hr
  refine ⟨_, pa_cons pa pr hs, fun B r σ F H Q rep h => ?_⟩
  refine qa B r σ F H _ rep (Po.bind h fun d r1 F1 H1 x _ s1 rep1 dx h1 => ?_)
  refine qr B r1 σ F1 H1 _ rep1 (Po.bind h1 fun ds r2 F2 H2 xs _ s2 rep2 dxs h2 => ?_)
  exact h2 F2 H2 _ (Same.refl _) rep2 (.cons (dx.mono s2) dxs)
theorem de_tup {k : Nat} (h : DA T cv X E es fs) (hl : ∀ r ds r', fs r = .ok ds r' → ds.length ≤ lim) : DE T cv X E (.Tuple es k pos) (eTup fs) := by
  obtain ⟨t, p, q⟩ := h
  refine ⟨_, pe_tup p, fun B r σ F H Q rep h => ?_⟩
  refine q B r σ F H _ rep (Po.bind h fun ds r1 F1 H1 xs er s1 rep1 dxs h1 => ?_)
  have z := hl r ds r1 er
  refine ⟨by rw [dxs.len]; exact Nat.le_trans z (by decide), fun p hp => ?_⟩
  exact h1 _ _ _ (same_upd (rep1.free hp)) (rep1.fresh hp not_tup) (.tup upd_same (dxs.mono (same_upd (rep1.free hp))))
theorem de_lst (h : DA T cv X E es fs) (hl : ∀ r ds r', fs r = .ok ds r' → ds.length ≤ lim) : DE T cv X E (.List es pos) (eLst fs) := by
  obtain ⟨t, p, q⟩ := h
  refine ⟨_, pe_lst p, fun B r σ F H Q rep h => ?_⟩
  refine q B r σ F H _ rep (Po.bind h fun ds r1 F1 H1 xs er s1 rep1 dxs h1 => ?_)
  have z := hl r ds r1 er
  refine ⟨by rw [dxs.len]; exact Nat.le_trans z (by decide), fun p hp => ?_⟩
  exact h1 _ _ _ (same_upd (rep1.free hp)) (rep1.fresh hp not_lst) (.lst upd_same (dxs.mono (same_upd (rep1.free hp))))
/-- lengths of written lists -/
def Ln (fs : M (List D)) (n : Nat) : Prop := ∀ r ds r', fs r = .ok ds r' → ds.length = n
theorem ln_nil : Ln aN 0 := fun r ds r' h => by
  cases h
  rfl
theorem ln_cons {n : Nat} (h : Ln fs n) : Ln (aC fa fs) (n + 1) := fun r ds r' e => by
  unfold aC at e
  cases h1 : fa r with
  | ok d r1 =>
    rw [h1] at e
    have e : (fs r1).andThen (fun xs r2 => R.ok (d :: xs) r2) = .ok ds r' := e
    cases h2 : fs r1 with
    | ok xs r2 =>
      rw [h2] at e
      have e : R.ok (d :: xs) r2 = .ok ds r' := e
      injection e with e1 e2
      rw [← e1, List.length_cons, h r1 xs r2 h2]
    | exc c r2 =>
      rw [h2] at e
      cases e
    | bad =>
      rw [h2] at e
      cases e
  | exc c r1 =>
    rw [h1] at e
    cases e
  | bad =>
    rw [h1] at e
    cases e
theorem Ln.le {n : Nat} (h : Ln fs n) (hn : n ≤ 100000 := by decide) : ∀ r ds r', fs r = .ok ds r' → ds.length ≤ lim := fun r ds r' e => by
  rw [h r ds r' e]
  exact hn
theorem de_callB {x : Str} {id : String} {p : Pos} {rr : List V → Hp → VK → Prop} {f : List D → Option D} (hc : CallR X (.builtin id) rr) (o : OpN T X.K rr f) (hg : Gl X x) (hm : X.mg x = none) (hv : bootBuiltins x = some (.builtin id)) (ha : DA T cv X E (e :: es) fs) (hn : x ≠ "__name__" := by decide) (hdb : (x == ("__debug__" : Str)) = false := by decide)
    (he : starEach (e :: es) X.env = (false, eval e X.env) :: starEach es X.env := by rfl) (hpl : (backTo pos (starEach es X.env)).any (·.1) = false := by rfl) : DE T cv X E (.Call (.Name x p) (e :: es) [] pos) (eB f fs) := by
  obtain ⟨t, pp, q⟩ := ha
  refine ⟨_, pe_callB hc hg hm hv pp hn hdb he hpl, fun B r σ F H Q rep h => ?_⟩
  refine q B r σ F H _ rep (Po.bind h fun ds r1 F1 H1 xs er s1 rep1 dxs h1 => ?_)
  obtain ⟨z, ez, q⟩ := h1.lift
  exact o B r1 σ F1 H1 xs ds z Q rep1 dxs ez q
theorem de_callTy {x : Str} {id : String} {p : Pos} {rr : List V → Hp → VK → Prop} {f : List D → Option D} (hc : CallR X (.type id) rr) (o : OpN T X.K rr f) (hg : Gl X x) (hm : X.mg x = none) (hv : bootBuiltins x = some (.type id)) (ha : DA T cv X E (e :: es) fs) (hn : x ≠ "__name__" := by decide) (hdb : (x == ("__debug__" : Str)) = false := by decide)
    (he : starEach (e :: es) X.env = (false, eval e X.env) :: starEach es X.env := by rfl) (hpl : (backTo pos (starEach es X.env)).any (·.1) = false := by rfl) : DE T cv X E (.Call (.Name x p) (e :: es) [] pos) (eB f fs) := by
  obtain ⟨t, pp, q⟩ := ha
  refine ⟨_, pe_callTy hc hg hm hv pp hn hdb he hpl, fun B r σ F H Q rep h => ?_⟩
  refine q B r σ F H _ rep (Po.bind h fun ds r1 F1 H1 xs er s1 rep1 dxs h1 => ?_)
  obtain ⟨z, ez, q⟩ := h1.lift
  exact o B r1 σ F1 H1 xs ds z Q rep1 dxs ez q
/-! ### tests -/
theorem dt_v (ha : DE T cv X E a fa) (he : ∀ whole, isTrue a X.env whole = (do let v ← whole; standAt a.pos; holding [v] (truthy v)) := by intro _; rfl) : DT T cv X E a (tV fa) := by
  obtain ⟨ta, pa, qa⟩ := ha
  refine ⟨_, pt_val pa he, fun B r σ F H Q rep h => ?_⟩
  refine qa B r σ F H _ rep (Po.bind h fun d r1 F1 H1 x _ s1 rep1 dx h1 => ?_)
  cases d with
  | bl k =>
    cases dx
    exact ⟨k, rfl, h1 F1 H1 k (Same.refl _) rep1 rfl⟩
  | _ => exact h1.elim
theorem dt_cmp {op : CmpOp} {rr : R2} {f : D → D → Option D} (ho : OpR X (compareOp op) rr) (o : Op2 T X.K rr f) (hm : behindInMarks op b = false) (ha : DE T cv X E a fa) (hb : DE T cv X E b fb) : DT T cv X E (.Compare a [op] [b] pos) (tV (e2 f fa fb)) := by
  obtain ⟨ta, pa, qa⟩ := ha
  obtain ⟨tb, pb, qb⟩ := hb
  refine ⟨_, pt_cmpR ho pa pb hm, fun B r σ F H Q rep h => ?_⟩
  refine tOp_ok o qa qb B r σ F H _ rep (Po.bind h fun d r1 F1 H1 x _ s1 rep1 dx h1 => ?_)
  cases d with
  | bl k =>
    cases dx
    exact ⟨k, rfl, h1 F1 H1 k (Same.refl _) rep1 rfl⟩
  | _ => exact h1.elim
theorem dt_chain {op op' : CmpOp} {rr rr' : R2} {f g : D → D → Option D} (ho : OpR X (compareOp op) rr) (ho' : OpR X (compareOp op') rr') (o : Op2 T X.K rr f) (o' : Op2 T X.K rr' g) (ha : DE T cv X E a fa) (hb : DE T cv X E b fb) (hc : DE T cv X E c fc)
    (hm : lastMarks [op, op'] [b, c] = false := by with_unfolding_all rfl) : DT T cv X E (.Compare a [op, op'] [b, c] pos) (tV (eCh f g fa fb fc)) := by
  obtain ⟨ta, pa, qa⟩ := ha
  obtain ⟨tb, pb, qb⟩ := hb
  obtain ⟨tc, pc, qc⟩ := hc
  refine ⟨_, pt_chain ho ho' pa pb pc hm, fun B r σ F H Q rep h => ?_⟩
  refine tCh_ok o o' qa qb qc B r σ F H _ rep (Po.bind h fun d r1 F1 H1 x _ s1 rep1 dx h1 => ?_)
  cases d with
  | bl k =>
    cases dx
    exact ⟨k, rfl, h1 F1 H1 k (Same.refl _) rep1 rfl⟩
  | _ => exact h1.elim
theorem DW.t {f : M Bool} (h : DW T cv X E a f) : DT T cv X E a f := by
  obtain ⟨t, p, q⟩ := h
  exact ⟨t, p.pt, q⟩
variable {tA tBb : M Bool} {rest : List Expr}
theorem dw_and1 (ha : DT T cv X E a tA) : DW T cv X E (.BoolOp .And [a] pos) tA := by
  obtain ⟨t, p, q⟩ := ha
  exact ⟨t, pw_and1 p, q⟩
theorem dw_or1 (ha : DT T cv X E a tA) : DW T cv X E (.BoolOp .Or [a] pos) tA := by
  obtain ⟨t, p, q⟩ := ha
  exact ⟨t, pw_or1 p, q⟩
theorem dw_and (ha : DT T cv X E a tA) (hb : DW T cv X E (.BoolOp .And (b :: rest) pos) tBb) : DW T cv X E (.BoolOp .And (a :: b :: rest) pos) (tAn tA tBb) := by
  obtain ⟨t, p, q⟩ := ha
  obtain ⟨t', p', q'⟩ := hb
  refine ⟨_, pw_and p p', fun B r σ F H Q rep h => ?_⟩
  refine q B r σ F H _ rep (Po.bind h fun k r1 F1 H1 x _ s1 rep1 dx h1 => ?_)
  subst dx
  cases x with
  | true => exact iteT (q' B r1 σ F1 H1 Q rep1 h1)
  | false => exact iteF (h1 F1 H1 _ (Same.refl _) rep1 rfl)
theorem dw_or (ha : DT T cv X E a tA) (hb : DW T cv X E (.BoolOp .Or (b :: rest) pos) tBb) : DW T cv X E (.BoolOp .Or (a :: b :: rest) pos) (tOr tA tBb) := by
  obtain ⟨t, p, q⟩ := ha
  obtain ⟨t', p', q'⟩ := hb
  refine ⟨_, pw_or p p', fun B r σ F H Q rep h => ?_⟩
  refine q B r σ F H _ rep (Po.bind h fun k r1 F1 H1 x _ s1 rep1 dx h1 => ?_)
  subst dx
  cases x with
  | true => exact iteT (h1 F1 H1 _ (Same.refl _) rep1 rfl)
  | false => exact iteF (q' B r1 σ F1 H1 Q rep1 h1)
theorem dt_not (ha : DT T cv X E a tA) : DT T cv X E (.UnaryOp .Not a pos) (tNo tA) := by
  obtain ⟨t, p, q⟩ := ha
  refine ⟨_, pt_not p, fun B r σ F H Q rep h => ?_⟩
  refine q B r σ F H _ rep (Po.bind h fun k r1 F1 H1 x _ s1 rep1 dx h1 => ?_)
  subst dx
  exact h1 F1 H1 _ (Same.refl _) rep1 rfl
theorem de_one {op : BoolOp} (h : DE T cv X E a fa) : DE T cv X E (.BoolOp op [a] pos) fa := by
  obtain ⟨t, p, q⟩ := h
  exact ⟨t, pe_one p, q⟩
theorem de_and (ha : DE T cv X E a fa) (hb : DE T cv X E (.BoolOp .And (b :: rest) pos) fb) : DE T cv X E (.BoolOp .And (a :: b :: rest) pos) (eAn fa fb) := by
  obtain ⟨t, p, q⟩ := ha
  obtain ⟨t', p', q'⟩ := hb
  refine ⟨_, pe_and p p', fun B r σ F H Q rep h => ?_⟩
  refine q B r σ F H _ rep (Po.bind h fun d r1 F1 H1 x _ s1 rep1 dx h1 => ?_)
  cases d with
  | bl k =>
    cases dx
    cases k with
    | true => exact ⟨true, rfl, iteT (q' B r1 σ F1 H1 Q rep1 h1)⟩
    | false => exact ⟨false, rfl, iteF (h1 F1 H1 _ (Same.refl _) rep1 (.bl false))⟩
  | _ => exact h1.elim
theorem de_not (ha : DE T cv X E a fa) : DE T cv X E (.UnaryOp .Not a pos) (eNo fa) := by
  obtain ⟨t, p, q⟩ := ha
  refine ⟨_, pe_not p, fun B r σ F H Q rep h => ?_⟩
  refine q B r σ F H _ rep (Po.bind h fun d r1 F1 H1 x _ s1 rep1 dx h1 => ?_)
  cases d with
  | bl k =>
    cases dx
    exact ⟨k, rfl, h1 F1 H1 _ (Same.refl _) rep1 (.bl _)⟩
  | _ => exact h1.elim
theorem de_ifE (hc : DT T cv X E c tA) (ha : DE T cv X E a fa) (hb : DE T cv X E b fb) : DE T cv X E (.IfExp c a b pos) (eIf tA fa fb) := by
  obtain ⟨tc, pc, qc⟩ := hc
  obtain ⟨t, p, q⟩ := ha
  obtain ⟨t', p', q'⟩ := hb
  refine ⟨_, pe_ifExp pc p p', fun B r σ F H Q rep h => ?_⟩
  refine qc B r σ F H _ rep (Po.bind h fun k r1 F1 H1 x _ s1 rep1 dx h1 => ?_)
  subst dx
  cases x with
  | true => exact iteT (q B r1 σ F1 H1 Q rep1 h1)
  | false => exact iteF (q' B r1 σ F1 H1 Q rep1 h1)
end
end FB
/-! Calls, targets, statements, loops. -/
namespace FB
open PySem PySem.Spec L2
/-! ### what a def promises -/
section
variable (T : List (Addr × Str)) (cv : Nat → Value) (K : PySem.W.Frag)
def PoD (F H : Hp) (Q : VK) (E : XK) : Ro → Prop
  | .ok d => ∀ F' H' v, Ext T ⟨fun _ => False, F, H⟩ F' H' → Dv K F' v d → Q v H'
  | .exc c => ∀ F' H', Ext T ⟨fun _ => False, F, H⟩ F' H' → E (cv c) none H'
  | .bad => False
def spD (n : Nat) (f : List D → Ro) : Sp := fun vs H Q E => ∃ F ds, vs.length = n ∧ Same F H ∧ (LamX.Tabs T H ∧ NT F) ∧ Dvs K F vs ds ∧ PoD T cv K F H Q E (f ds)
def PoO (p : Addr) (F H : Hp) (Q : VK) (E : XK) : Rw → Prop
  | .ok d ys => ∀ F' H' v us, Ext T ⟨fun b => b = p, F, H⟩ F' H' → H' p = some (.lst us) → Dvs K F' us ys → Dv K F' v d → Q v H'
  | .exc c ys => ∀ F' H' us, Ext T ⟨fun b => b = p, F, H⟩ F' H' → H' p = some (.lst us) → Dvs K F' us ys → E (cv c) none H'
  | .bad => False
def spO (n : Nat) (f : List D → List D → Rw) : Sp := fun vs H Q E => ∃ F p us xs ws ds, vs = .ref p :: ws ∧ vs.length = n ∧ Same F H ∧ (LamX.Tabs T H ∧ NT F) ∧ H p = some (.lst us) ∧ F p = none ∧ Dvs K F us xs ∧ Dvs K F ws ds ∧ PoO T cv K p F H Q E (f xs ds)
end
/-- a def of the module by its name -/
def Has (P : Program) (w : World) (K : PySem.W.Frag) (mg : Str → Option Value) (base : Heap) (T : List (Addr × Str)) (cv : Nat → Value) (k : Nat) (x : Str) (n : Nat) (f : List D → Ro) : Prop :=
  ∃ (a : Addr) (fd : FuncData) (ps : List Str), mg x = some (.ref a) ∧ PySem.W.keepIn K (.ref a) = true ∧ Binds K fd ps [] ∧ FnOk P w K mg base (L2N.CX P w) k a fd ps (spD T cv K n f)
def HasO (P : Program) (w : World) (K : PySem.W.Frag) (mg : Str → Option Value) (base : Heap) (T : List (Addr × Str)) (cv : Nat → Value) (k : Nat) (x : Str) (n : Nat) (f : List D → List D → Rw) : Prop :=
  ∃ (a : Addr) (fd : FuncData) (ps : List Str), mg x = some (.ref a) ∧ PySem.W.keepIn K (.ref a) = true ∧ Binds K fd ps [] ∧ FnOk P w K mg base (L2N.CX P w) k a fd ps (spO T cv K n f)
abbrev Tk (X : Cx) (E : XK) : Prop := L2N.Takes X (fun c d _ H => E c d H)
theorem tk0 {X : Cx} : Tk X E0 := fun _ _ x => by
  obtain ⟨_, _, _, _, _, _, _, _, _, _, _, _, _, _, _, _, z⟩ := x
  exact z.elim
section
variable {T : List (Addr × Str)} {cv : Nat → Value} {K : PySem.W.Frag} {B : Bs} {r : En} {σ : St} {F F1 H H1 F' H' : Hp} {E : XK}
theorem Rep.set_dat (h : Rep T K B r σ F H) (i : Nat) {v : V} {d : D} (hd : Dv K F v d) : Rep T K B (r.set i (.dat d)) (σ.set i (some v)) F H := by
  have key : ∀ (j : Nat) (s : Sl), (∀ d', s ≠ .dat d') → (r.set i (.dat d))[j]? = some s → j ≠ i ∧ r[j]? = some s := fun j s ns e => by
    by_cases hj : j = i
    · subst hj
      by_cases hl : j < r.length
      · rw [List.getElem?_set_self hl] at e
        exact absurd (Option.some.inj e).symm (ns d)
      · rw [List.getElem?_eq_none (by simpa using hl)] at e
        cases e
    · rw [List.getElem?_set_ne (Ne.symm hj)] at e
      exact ⟨hj, e⟩
  have no : ∀ j : Nat, notOwn (r.set i (.dat d))[j]? = false → j ≠ i ∧ notOwn r[j]? = false := fun j e => by
    by_cases hj : j = i
    · subst hj
      by_cases hl : j < r.length
      · rw [List.getElem?_set_self hl] at e
        cases e
      · rw [List.getElem?_eq_none (by simpa using hl)] at e
        cases e
    · rw [List.getElem?_set_ne (Ne.symm hj)] at e
      exact ⟨hj, e⟩
  refine ⟨h.ext, by rw [List.length_set, List.length_set, h.len], fun j d' e => ?_, fun j xs e => ?_, fun j xs e => ?_, fun j k p e1 e2 e3 e4 => ?_⟩
  · by_cases hj : j = i
    · subst hj
      have hl : j < r.length := by
        by_cases hl : j < r.length
        · exact hl
        · rw [List.getElem?_eq_none (by simpa using hl)] at e
          cases e
      rw [List.getElem?_set_self hl] at e
      have e' := Sl.dat.inj (Option.some.inj e)
      subst e'
      exact ⟨v, List.getElem?_set_self (by rw [← h.len]; exact hl), hd⟩
    · rw [List.getElem?_set_ne (Ne.symm hj)] at e
      obtain ⟨u, h1, h2⟩ := h.dat j d' e
      exact ⟨u, by rw [List.getElem?_set_ne (Ne.symm hj)]; exact h1, h2⟩
  · obtain ⟨hj, e'⟩ := key j (.own xs) (fun _ z => nomatch z) e
    obtain ⟨p, vs, h1, h2⟩ := h.own j xs e'
    exact ⟨p, vs, by rw [List.getElem?_set_ne (Ne.symm hj)]; exact h1, h2⟩
  · obtain ⟨hj, e'⟩ := key j (.bor xs) (fun _ z => nomatch z) e
    obtain ⟨p, vs, h1, h2⟩ := h.bor j xs e'
    exact ⟨p, vs, by rw [List.getElem?_set_ne (Ne.symm hj)]; exact h1, h2⟩
  · obtain ⟨hj, f1⟩ := no j e1
    obtain ⟨hk, f2⟩ := no k e2
    rw [List.getElem?_set_ne (Ne.symm hj)] at e3
    rw [List.getElem?_set_ne (Ne.symm hk)] at e4
    exact h.apart j k p f1 f2 e3 e4
/-- the list at slot i has changed, or has been changed by a callee -/
theorem Rep.turn {i : Nat} {p : Addr} {s s' : Sl} {us : List V} {xs ys : List D} (h : Rep T K B r σ F H) (hi : r[i]? = some s) (hs : (s = .own xs ∧ s' = .own ys) ∨ (s = .bor xs ∧ s' = .bor ys)) (hp : σ[i]? = some (some (.ref p)))
    (e : Ext T ⟨fun b => b = p, F, H⟩ F' H') (hu : H' p = some (.lst us)) (hy : Dvs K F' us ys) : Rep T K B (r.set i s') σ F' H' := by
  have hil : i < r.length := (List.getElem?_eq_some_iff.mp hi).1
  have isO : notOwn r[i]? = false := by
    rw [hi]
    rcases hs with ⟨rfl, _⟩ | ⟨rfl, _⟩ <;> rfl
  have hpf : F' p = none := by
    obtain ⟨_, _, _, z⟩ := e.ob p rfl
    exact z
  have hBp : B.O p ∨ Fresh B p := by
    rcases hs with ⟨rfl, _⟩ | ⟨rfl, _⟩
    · obtain ⟨q, vs, h1, _, _, _, h5⟩ := h.own i xs hi
      rw [hp] at h1
      cases h1
      exact .inr h5.1
    · obtain ⟨q, vs, h1, _, _, _, h5⟩ := h.bor i xs hi
      rw [hp] at h1
      cases h1
      exact .inl h5
  have no : ∀ j : Nat, notOwn (r.set i s')[j]? = false → notOwn r[j]? = false := fun j q => by
    by_cases hj : j = i
    · rw [hj]
      exact isO
    · rwa [List.getElem?_set_ne (Ne.symm hj)] at q
  have other : ∀ (j : Nat) (q : Addr) (vs : List V), j ≠ i → notOwn r[j]? = false → σ[j]? = some (some (.ref q)) → H q = some (.lst vs) → F q = none → H' q = some (.lst vs) ∧ F' q = none := fun j q vs hj n1 hq h2 h3 => by
    have hne : ¬ q = p := fun z => hj (h.apart j i p n1 isO (by rw [← z]; exact hq) hp)
    exact ⟨e.hh q _ h2 not_lst hne, e.nf q _ h2 not_lst h3⟩
  refine ⟨h.ext.comp e fun b hb => by rw [hb]; exact hBp, by rw [List.length_set, h.len], fun j d q => ?_, fun j zs q => ?_, fun j zs q => ?_, fun j k b e1 e2 => h.apart j k b (no j e1) (no k e2)⟩
  · by_cases hj : j = i
    · rw [hj, List.getElem?_set_self hil] at q
      rcases hs with ⟨_, rfl⟩ | ⟨_, rfl⟩ <;> cases q
    · rw [List.getElem?_set_ne (Ne.symm hj)] at q
      obtain ⟨v, h1, h2⟩ := h.dat j d q
      exact ⟨v, h1, h2.mono e.ff⟩
  · by_cases hj : j = i
    · rw [hj, List.getElem?_set_self hil] at q
      rcases hs with ⟨rfl, rfl⟩ | ⟨_, rfl⟩
      · have e' := Sl.own.inj (Option.some.inj q)
        rw [← e', hj]
        obtain ⟨p', vs, h1, _, _, _, h5⟩ := h.own i xs hi
        rw [hp] at h1
        cases h1
        exact ⟨p, us, hp, hu, hpf, hy, h5⟩
      · cases q
    · rw [List.getElem?_set_ne (Ne.symm hj)] at q
      obtain ⟨p', vs, h1, h2, h3, h4, h5⟩ := h.own j zs q
      obtain ⟨g1, g2⟩ := other j p' vs hj (by rw [q]; rfl) h1 h2 h3
      exact ⟨p', vs, h1, g1, g2, h4.mono e.ff, h5⟩
  · by_cases hj : j = i
    · rw [hj, List.getElem?_set_self hil] at q
      rcases hs with ⟨_, rfl⟩ | ⟨rfl, rfl⟩
      · cases q
      · have e' := Sl.bor.inj (Option.some.inj q)
        rw [← e', hj]
        obtain ⟨p', vs, h1, _, _, _, h5⟩ := h.bor i xs hi
        rw [hp] at h1
        cases h1
        exact ⟨p, us, hp, hu, hpf, hy, h5⟩
    · rw [List.getElem?_set_ne (Ne.symm hj)] at q
      obtain ⟨p', vs, h1, h2, h3, h4, h5⟩ := h.bor j zs q
      obtain ⟨g1, g2⟩ := other j p' vs hj (by rw [q]; rfl) h1 h2 h3
      exact ⟨p', vs, h1, g1, g2, h4.mono e.ff, h5⟩
theorem Rep.slot {i : Nat} (h : Rep T K B r σ F H) (n : notOwn r[i]? = false) : ∃ p : Addr, σ[i]? = some (some (.ref p)) := by
  cases e : r[i]? with
  | none =>
    rw [e] at n
    cases n
  | some s =>
    cases s with
    | own xs =>
      obtain ⟨p, _, h1, _⟩ := h.own i xs e
      exact ⟨p, h1⟩
    | bor xs =>
      obtain ⟨p, _, h1, _⟩ := h.bor i xs e
      exact ⟨p, h1⟩
    | _ =>
      rw [e] at n
      cases n
/-- a list outside the data is written -/
theorem Ext.write (s : Same F H) (t : LamX.Tabs T H) (n : NT F) {p : Addr} {vs us : List V} (hp : H p = some (.lst vs)) (hf : F p = none) : Ext T ⟨fun b => b = p, F, H⟩ F (upd H p (.lst us)) where
  ff := Same.refl _
  sub := fun b o e => by
    have hb : b ≠ p := ne_of_none e hf
    rw [upd_ne hb]
    exact s b o e
  hh := fun b o h n nb => by
    rw [upd_ne nb]
    exact h
  nf := fun b o h n z => z
  ob := fun b hb => by
    have hb : b = p := hb
    subst hb
    exact ⟨_, upd_same, not_lst, hf⟩
  nt := n
  tb := fun q hq => by
    obtain ⟨ps, h1, h2, h3⟩ := t q hq
    have n1 : q.1 ≠ p := fun z => by
      rw [z, hp] at h1
      cases h1
    refine ⟨ps, by rw [upd_ne n1]; exact h1, h2, fun pos c hc => ?_⟩
    obtain ⟨a, e1, e2⟩ := h3 pos c hc
    have n2 : a ≠ p := fun z => by
      rw [z, hp] at e2
      cases e2
    exact ⟨a, e1, by rw [upd_ne n2]; exact e2⟩
end
theorem at_get {K : PySem.W.Frag} {F : Hp} {us : List V} {ys : List D} {j : Int} {z : D} (h : Dvs K F us ys) (e : atD ys j = some z) : ∃ v, atI us j = some v ∧ Dv K F v z := by
  unfold atD at e
  unfold atI ixN
  have hl := h.len
  split at e
  · rename_i h0
    obtain ⟨v, h1, h2⟩ := h.get e
    have hlt := (List.getElem?_eq_some_iff.mp h1).1
    exact ⟨v, by rw [if_pos h0, if_pos (by omega)]; exact h1, h2⟩
  · rename_i h0
    split at e
    · rename_i h1
      obtain ⟨v, g1, g2⟩ := h.get e
      exact ⟨v, by rw [if_neg h0, if_pos (by omega), hl]; exact g1, g2⟩
    · cases e
section
variable {T : List (Addr × Str)} {cv : Nat → Value} {X : Cx} {E : XK} {e a b c : Expr} {es : List Expr} {pos : Pos} {fa fb fc : M D} {fs : M (List D)}
theorem de_call {x : Str} {p : Pos} {k n : Nat} {f : List D → Ro} (tk : Tk X E) (G : Has X.prog X.w X.K X.mg X.base T cv k x n f) (hr : Room k X.A) (hg : Gl X x) (ha : DA T cv X E (e :: es) fs) (hl : Ln fs n) (hdb : (x == ("__debug__" : Str)) = false := by decide)
    (he : starEach (e :: es) X.env = (false, eval e X.env) :: starEach es X.env := by rfl) (hpl : (backTo pos (starEach es X.env)).any (·.1) = false := by rfl) : DE T cv X E (.Call (.Name x p) (e :: es) [] pos) (eCall f fs) := by
  obtain ⟨t, pp, q⟩ := ha
  obtain ⟨ad, fd, ps, g1, g2, g3, g4⟩ := G
  refine ⟨_, pe_callS (E := fun _ => E) g4 hr hg g1 g2 g3 (fun σ => L2N.passAt tk σ) pp hdb he hpl, fun B r σ F H Q rep h => ?_⟩
  refine q B r σ F H _ rep (Po.bind h fun ds r1 F1 H1 xs er s1 rep1 dxs h1 => ?_)
  refine ⟨F1, ds, by rw [dxs.len]; exact hl r ds r1 er, rep1.ext.sub, ⟨rep1.ext.tb, rep1.ext.nt⟩, dxs, ?_⟩
  cases ef : f ds with
  | ok d =>
    rw [ef] at h1
    exact fun F' H' v e dv => h1 F' H' v e.ff (rep1.call e) dv
  | exc c =>
    rw [ef] at h1
    exact fun F' H' e => h1 F' H' e.ff (rep1.call e)
  | bad =>
    rw [ef] at h1
    exact h1
theorem de_callO {x y : Str} {p py : Pos} {k n i : Nat} {f : List D → List D → Rw} (tk : Tk X E) (G : HasO X.prog X.w X.K X.mg X.base T cv k x (n + 1) f) (hr : Room k X.A) (hg : Gl X x) (hN : X.N[i]? = some y) (hv : Vis X.env.scope y) (ha : DA T cv X E es fs) (hl : Ln fs n) (hdb : (x == ("__debug__" : Str)) = false := by decide)
    (hs : starEach (.Name y py :: es) X.env = (false, eval (.Name y py) X.env) :: starEach es X.env := by rfl) (hpl : (backTo pos (starEach es X.env)).any (·.1) = false := by rfl)
    (hd : (y == ("__debug__" : Str)) = false := by decide) (hcd : (y == ("__classdict__" : Str)) = false := by decide) : DE T cv X E (.Call (.Name x p) (.Name y py :: es) [] pos) (eCallO f i fs) := by
  obtain ⟨t, pp, q⟩ := ha
  obtain ⟨ad, fd, ps, g1, g2, g3, g4⟩ := G
  refine ⟨_, pe_callS (E := fun _ => E) g4 hr hg g1 g2 g3 (fun σ => L2N.passAt tk σ) (pa_cons (pe_var hN hv hd hcd) pp hs) hdb hs hpl, fun B r σ F H Q rep h => ?_⟩
  unfold eCallO at h
  split at h
  · rename_i ys0 hi0
    obtain ⟨p0, us0, hp0, _⟩ := rep.bor i ys0 hi0
    refine ⟨.ref p0, hp0, ?_⟩
    refine q B r σ F H _ rep (Po.bind h fun ds r1 F1 H1 xs er s1 rep1 dxs h1 => ?_)
    cases hi : r1[i]? with
    | none =>
      rw [hi] at h1
      exact h1.elim
    | some s =>
      rw [hi] at h1
      cases s with
      | bor ys =>
        obtain ⟨p', us, k1, k2, k3, k4, k5⟩ := rep1.bor i ys hi
        rw [hp0] at k1
        cases k1
        refine ⟨F1, p0, us, ys, xs, ds, rfl, by rw [List.length_cons, dxs.len, hl r ds r1 er], rep1.ext.sub, ⟨rep1.ext.tb, rep1.ext.nt⟩, k2, k3, k4, dxs, ?_⟩
        cases ef : f ys ds with
        | ok d zs =>
          simp only [ef] at h1
          exact fun F' H' v us' e hu dz dv => h1 F' H' v e.ff (rep1.turn hi (.inr ⟨rfl, rfl⟩) hp0 e hu dz) dv
        | exc c zs =>
          simp only [ef] at h1
          exact fun F' H' us' e hu dz => h1 F' H' e.ff (rep1.turn hi (.inr ⟨rfl, rfl⟩) hp0 e hu dz)
        | bad =>
          simp only [ef] at h1
          exact h1.elim
      | _ => exact h1.elim
  · exact h.elim
theorem de_ixO {i : Nat} {y : Str} {py : Pos} (hN : X.N[i]? = some y) (hv : Vis X.env.scope y) (hb : DE T cv X E b fb) (hs : PlainIx b) (hd : (y == ("__debug__" : Str)) = false := by decide) (hcd : (y == ("__classdict__" : Str)) = false := by decide) :
    DE T cv X E (.Subscript (.Name y py) b pos) (eIxO i fb) := by
  obtain ⟨tb, pb, qb⟩ := hb
  refine ⟨_, pe_ix ix_list (pe_var hN hv hd hcd) pb hs, fun B r σ F H Q rep h => ?_⟩
  unfold eIxO at h
  split at h
  · exact h.elim
  rename_i hno
  have main : ∀ p0 : Addr, σ[i]? = some (some (.ref p0)) → tOp (rIxL X.K) (tVar i) tb σ H Q := fun p0 hp0 => by
    refine ⟨.ref p0, hp0, ?_⟩
    refine qb B r σ F H _ rep (Po.bind h fun d r1 F1 H1 x er s1 rep1 dx h1 => ?_)
    have fin : ∀ (ys : List D) (us : List V) (j : Int), x = .int j → H1 p0 = some (.lst us) → Dvs X.K F1 us ys → PoE T cv X.K B σ F1 E Q (R.lift (atD ys j) r1) → rIxL X.K (.ref p0) x H1 Q := fun ys us j ex hu du hj => by
      obtain ⟨z, ez, q⟩ := hj.lift
      obtain ⟨v, hv', dv⟩ := at_get du ez
      exact ⟨p0, us, j, v, rfl, ex, SqL.of hu, hv', q F1 H1 v (Same.refl _) rep1 dv⟩
    split at h1
    · rename_i ys j hi
      obtain ⟨p', us, k1, k2, k3, k4, k5⟩ := rep1.own i ys hi
      rw [hp0] at k1
      cases k1
      cases dx
      exact fin ys us j rfl k2 k4 h1
    · rename_i ys j hi
      obtain ⟨p', us, k1, k2, k3, k4, k5⟩ := rep1.bor i ys hi
      rw [hp0] at k1
      cases k1
      cases dx
      exact fin ys us j rfl k2 k4 h1
    · exact h1.elim
  obtain ⟨p0, hp0⟩ := rep.slot (i := i) (by simpa using hno)
  exact main p0 hp0
end
/-! ### statements -/
section
variable (T : List (Addr × Str)) (cv : Nat → Value)
def PoS (K : PySem.W.Frag) (B : Bs) (F : Hp) (E : XK) (D : Ends) : R Fl → Prop
  | .ok .nx r => ∀ σ' F' H', Same F F' → Rep T K B r σ' F' H' → D.nx σ' H'
  | .ok (.ret d) r => ∀ σ' F' H' v, Same F F' → Rep T K B r σ' F' H' → Dv K F' v d → D.rt v H'
  | .exc c r => ∀ σ' F' H', Same F F' → Rep T K B r σ' F' H' → E (cv c) none H'
  | .bad => False
def DS (X : Cx) (E : XK) (st : Stmt) (f : M Fl) : Prop := ∃ t, PS X st t ∧ ∀ B r σ F H D, Rep T X.K B r σ F H → PoS T cv X.K B F E D (f r) → t D σ H
def DSs (X : Cx) (E : XK) (st : List Stmt) (f : M Fl) : Prop := ∃ t, PSs X st t ∧ ∀ B r σ F H D, Rep T X.K B r σ F H → PoS T cv X.K B F E D (f r) → t D σ H
/-- a target, the slots that it writes -/
def DG (X : Cx) (tg : Expr) (g : Tg) (vs : List Nat) : Prop := ∃ t, PG X tg t ∧ ∀ B r σ F H v d r' Q, Rep T X.K B r σ F H → Dv X.K F v d → g d r = some r' → (∀ σ', Rep T X.K B r' σ' F H → wipe σ' vs = wipe σ vs → Q σ' H) → t v σ H Q
def DGs (X : Cx) (tgs : List Expr) (vs : List Nat) : Prop := ∃ t, PGs X tgs t ∧ ∀ B r σ F H us ds Q, Rep T X.K B r σ F H → Dvs X.K F us ds → ds.length = vs.length → (∀ σ', Rep T X.K B (setAll vs ds r) σ' F H → wipe σ' vs = wipe σ vs → Q σ' H) → t us σ H Q
/-- what an iterator yields, over the data at F -/
def Wk (K : PySem.W.Frag) (F : Hp) (J : It) (xs : List D) : Prop := ∀ (i : Nat) H, Same F H → (xs.length = i → J.stop i H) ∧ ∀ d, xs[i]? = some d → J.go i H ∧ ∀ x H', J.yld i H x H' →
  (H' = H ∧ Dv K F x d) ∨ ∃ p us ds, H p = none ∧ H' = upd H p (.tup us) ∧ x = .ref p ∧ d = .tup ds ∧ Dvs K F us ds
def DI (X : Cx) (E : XK) (tg iter : Expr) (f : M (List D)) : Prop := ∃ wi, PI X tg iter wi ∧ ∀ B r σ F H (Rr : It → Hp → Prop), Rep T X.K B r σ F H → Po T cv (Wk X.K) X.K B σ F E Rr (f r) → wi σ H Rr
end
section
variable {T : List (Addr × Str)} {cv : Nat → Value} {K : PySem.W.Frag} {B : Bs} {r : En} {σ : St} {F F1 H : Hp} {E : XK} {Dd : Ends}
theorem PoS.from {x : R Fl} (s : Same F F1) (h : PoS T cv K B F E Dd x) : PoS T cv K B F1 E Dd x := by
  cases x with
  | ok a r =>
    cases a with
    | nx => exact fun σ' F' H' s' => h σ' F' H' (s.trans s')
    | ret d => exact fun σ' F' H' v s' => h σ' F' H' v (s.trans s')
  | exc c r => exact fun σ' F' H' s' => h σ' F' H' (s.trans s')
  | bad => exact h
theorem PoS.bind {α β : Type} {RA : Hp → β → α → Prop} {Q1 : β → Hp → Prop} {x : R α} {f : α → En → R Fl} (h : PoS T cv K B F E Dd (x.andThen f))
    (k : ∀ a r F1 H1 v, x = .ok a r → Same F F1 → Rep T K B r σ F1 H1 → RA F1 v a → PoS T cv K B F1 E Dd (f a r) → Q1 v H1) : Po T cv RA K B σ F E Q1 x := by
  cases x with
  | ok a r => exact fun F' H' v s rep rel => k a r F' H' v rfl s rep rel (PoS.from s h)
  | exc c r => exact fun F' H' s rep => h σ F' H' s rep
  | bad => exact h
end
section
variable {T : List (Addr × Str)} {cv : Nat → Value} {X : Cx} {E : XK} {e a b c tg iter : Expr} {es : List Expr} {pos : Pos} {fa fb fc : M D} {fs fi : M (List D)} {st : Stmt} {rest : List Stmt} {f g : M Fl} {tA : M Bool}
/-! ### targets -/
theorem dg_n {i : Nat} {x : Str} (hN : X.N.Nodup) (hi : X.N[i]? = some x) (hx : Loc X.env.scope x) (hf : X.fn x = true ∨ X.env.scope.names.lookup x = some .local := by first | exact .inl rfl | exact .inr rfl | assumption) : DG T X (.Name x pos) (gN i) [i] := by
  refine ⟨_, pg_name hN hi hx hf, fun B r σ F H v d r' Q rep dv e q => ?_⟩
  cases e
  refine q _ (rep.set_dat i dv) ?_
  show ((σ.set i (some v)).set i none) = σ.set i none
  rw [List.set_set]
theorem dgs_nil : DGs T X [] [] := ⟨_, pgs_nil, fun B r σ F H us ds Q rep d hl q => by
  cases d with
  | nil => exact ⟨rfl, q σ rep rfl⟩
  | cons _ _ => cases hl⟩
theorem wipe_set {σ : St} {i : Nat} {x : Option V} : ∀ vs : List Nat, i ∉ vs → wipe (σ.set i x) vs = (wipe σ vs).set i x
  | [], _ => rfl
  | v :: vs, h => by
    have h1 : i ≠ v := fun z => h (by rw [z]; exact List.mem_cons_self)
    have h2 : i ∉ vs := fun z => h (List.mem_cons_of_mem _ z)
    show (wipe (σ.set i x) vs).set v none = ((wipe σ vs).set v none).set i x
    rw [wipe_set vs h2, List.set_comm _ _ h1]
theorem dgs_cons {i : Nat} {x : Str} {vs : List Nat} {px : Pos} (hN : X.N.Nodup) (hi : X.N[i]? = some x) (hx : Loc X.env.scope x) (hr : DGs T X es vs) (hn : i ∉ vs := by decide)
    (hs : (assignEach (.Name x px :: es) X.env).map (·.2) = assign (.Name x px) X.env :: (assignEach es X.env).map (·.2) := by rfl)
    (hf : X.fn x = true ∨ X.env.scope.names.lookup x = some .local := by first | exact .inl rfl | exact .inr rfl | assumption) : DGs T X (.Name x px :: es) (i :: vs) := by
  obtain ⟨t, p, q⟩ := hr
  refine ⟨_, pgs_cons (pg_name hN hi hx hf) p hs, fun B r σ F H us ds Q rep d hl k => ?_⟩
  cases d with
  | nil => cases hl
  | cons dv dvs =>
    rename_i v us' d ds'
    refine ⟨v, us', rfl, ?_⟩
    refine q B _ _ F H us' ds' Q (rep.set_dat i dv) dvs (by simpa using hl) fun σ' rep' hw => k σ' rep' ?_
    show (wipe σ' vs).set i none = (wipe σ vs).set i none
    rw [hw, wipe_set vs hn, List.set_set]
theorem dg_t {k : Nat} {vs : List Nat} (hc : X.calm = true) (h : DGs T X es vs) (hn : (assignEach es X.env).length = vs.length := by rfl) (hst : (assignEach es X.env).findIdx? (·.1) = none := by rfl) : DG T X (.Tuple es k pos) (gT vs) vs := by
  obtain ⟨t, p, q⟩ := h
  refine ⟨_, pg_tup hc p hn hst, fun B r σ F H v d r' Q rep dv e k => ?_⟩
  unfold gT at e
  cases dv with
  | tup hF dvs =>
    rename_i a us ds
    dsimp only at e
    split at e
    · rename_i hl
      cases e
      exact ⟨a, us, rfl, SqT.of (rep.ext.sub _ _ hF), by rw [dvs.len]; exact hl, q B r σ F H us ds Q rep dvs hl k⟩
    · cases e
  | _ => cases e
/-! ### blocks -/
theorem dss_nil : DSs T cv X E [] sNil := ⟨_, pss_nil, fun B r σ F H D rep h => h σ F H (Same.refl _) rep⟩
theorem dss_cons (h1 : DS T cv X E st f) (h2 : DSs T cv X E rest g) : DSs T cv X E (st :: rest) (sSeq f g) := by
  obtain ⟨t, p, q⟩ := h1
  obtain ⟨t', p', q'⟩ := h2
  refine ⟨_, pss_cons p p', fun B r σ F H D rep h => ?_⟩
  refine q B r σ F H _ rep ?_
  have h : PoS T cv X.K B F E D (sSeq f g r) := h
  unfold sSeq at h
  cases ef : f r with
  | ok a r1 =>
    rw [ef] at h
    cases a with
    | nx => exact fun σ' F' H' s rep' => q' B r1 σ' F' H' D rep' (PoS.from s h)
    | ret d => exact h
  | exc c r1 =>
    rw [ef] at h
    exact h
  | bad =>
    rw [ef] at h
    exact h
theorem dss_one (h1 : DS T cv X E st f) : DSs T cv X E [st] f := by
  obtain ⟨t, p, q⟩ := h1
  exact ⟨t, pss_one p, q⟩
theorem ds_set {i : Nat} {x : Str} {px : Pos} (hN : X.N.Nodup) (hi : X.N[i]? = some x) (hx : Loc X.env.scope x) (he : DE T cv X E e fa) (hs : swapsWith e (some (.Name x px)) pos.line X.env = pure false := by rfl) (hf : X.fn x = true ∨ X.env.scope.names.lookup x = some .local := by first | exact .inl rfl | exact .inr rfl | assumption) :
    DS T cv X E (.Assign [.Name x px] e pos) (sSet i fa) := by
  obtain ⟨t, p, q⟩ := he
  refine ⟨_, ps_set hN hi hx p hs hf, fun B r σ F H D rep h => ?_⟩
  refine q B r σ F H _ rep (PoS.bind h fun d r1 F1 H1 v er s1 rep1 dv h1 => ?_)
  exact h1 _ _ _ (Same.refl _) (rep1.set_dat i dv)
theorem ds_asg {g : Tg} {vs : List Nat} (he : DE T cv X E e fa) (hg : DG T X tg g vs) (hs : swapsWithSole [tg] e pos.line X.env = pure false := by rfl) (hw : swappedStores [tg] e X.env = pure none := by rfl)
    (h1 : (assignEach [tg] X.env).map (·.2) = [assign tg X.env] := by rfl) : DS T cv X E (.Assign [tg] e pos) (sAsg g fa) := by
  obtain ⟨t, p, q⟩ := he
  obtain ⟨t', p', q'⟩ := hg
  refine ⟨_, ps_asg p p' hs hw h1, fun B r σ F H D rep h => ?_⟩
  refine q B r σ F H _ rep (PoS.bind h fun d r1 F1 H1 v er s1 rep1 dv h1 => ?_)
  cases eg : g d r1 with
  | none =>
    rw [eg] at h1
    exact h1.elim
  | some r2 =>
    rw [eg] at h1
    exact q' B r1 σ F1 H1 v d r2 _ rep1 dv eg fun σ' rep' _ => h1 σ' F1 H1 (Same.refl _) rep'
theorem ds_par {i j : Nat} {x y : Str} {px py pt : Pos} {kt k2 : Nat} {pt2 : Pos} (hc : X.calm = true) (hN : X.N.Nodup) (hi : X.N[i]? = some x) (hj : X.N[j]? = some y) (hij : i ≠ j)
    (hx : X.env.scope.names.lookup x = some .local) (hy : X.env.scope.names.lookup y = some .local) (ha : DE T cv X E a fa) (hb : DE T cv X E b fb)
    (hw : swappedStores [.Tuple [.Name x px, .Name y py] kt pt] (.Tuple [a, b] k2 pt2) X.env = pure (some [x, y]))
    (hs : swapsWithSole [.Tuple [.Name x px, .Name y py] kt pt] (.Tuple [a, b] k2 pt2) pos.line X.env = pure false := by rfl)
    (h1 : starEach [a, b] X.env = (false, eval a X.env) :: starEach [b] X.env := by rfl) (h2 : starEach [b] X.env = (false, eval b X.env) :: starEach [] X.env := by rfl) :
    DS T cv X E (.Assign [.Tuple [.Name x px, .Name y py] kt pt] (.Tuple [a, b] k2 pt2) pos) (sPar i j fa fb) := by
  obtain ⟨t, p, q⟩ := ha
  obtain ⟨t', p', q'⟩ := hb
  refine ⟨_, ps_par hc hN hi hj hij hx hy (pa_cons p (pa_cons p' pa_nil h2) h1) hw hs, fun B r σ F H D rep h => ?_⟩
  refine q B r σ F H _ rep (PoS.bind h fun d r1 F1 H1 v er s1 rep1 dv h1 => ?_)
  refine q' B r1 σ F1 H1 _ rep1 (PoS.bind h1 fun d2 r2 F2 H2 w er2 s2 rep2 dw h2 => ?_)
  exact ⟨v, w, rfl, h2 _ _ _ (Same.refl _) ((rep2.set_dat i (dv.mono s2)).set_dat j dw)⟩
theorem ds_ret (he : DE T cv X E e fa) : DS T cv X E (.Return (some e) pos) (sRet fa) := by
  obtain ⟨t, p, q⟩ := he
  refine ⟨_, ps_ret p, fun B r σ F H D rep h => ?_⟩
  exact q B r σ F H _ rep (PoS.bind h fun d r1 F1 H1 v er s1 rep1 dv h1 => h1 σ F1 H1 v (Same.refl _) rep1 dv)
theorem ds_exp (he : DE T cv X E e fa) (hs : swapsWith e none pos.line X.env = pure false := by rfl) : DS T cv X E (.Expr e pos) (sExp fa) := by
  obtain ⟨t, p, q⟩ := he
  refine ⟨_, ps_expr p hs, fun B r σ F H D rep h => ?_⟩
  exact q B r σ F H _ rep (PoS.bind h fun d r1 F1 H1 v er s1 rep1 dv h1 => h1 σ F1 H1 (Same.refl _) rep1)
theorem ds_if {sa sb : List Stmt} (hc : DT T cv X E c tA) (ha : DSs T cv X E sa f) (hb : DSs T cv X E sb g) : DS T cv X E (.If c sa sb pos) (sIf tA f g) := by
  obtain ⟨tc, pc, qc⟩ := hc
  obtain ⟨t, p, q⟩ := ha
  obtain ⟨t', p', q'⟩ := hb
  refine ⟨_, ps_if pc p p', fun B r σ F H D rep h => ?_⟩
  refine qc B r σ F H _ rep (PoS.bind h fun k r1 F1 H1 x _ s1 rep1 dx h1 => ?_)
  subst dx
  cases x with
  | true => exact iteT (q B r1 σ F1 H1 D rep1 h1)
  | false => exact iteF (q' B r1 σ F1 H1 D rep1 h1)
/-! ### loops -/
theorem ds_while {body : List Stmt} (n : Nat) (hp : PassesOwn (model X.prog X.w) X.A X.env X.xe) (hc : DT T cv X E c tA) (hb : DSs T cv X E body f) : DS T cv X E (.While c body [] pos) (sWhile tA f n) := by
  obtain ⟨tc, pc, qc⟩ := hc
  obtain ⟨t, p, q⟩ := hb
  refine ⟨_, ps_while hp pc p, fun B r σ F H D rep h => ?_⟩
  refine ⟨fun m σ' H' => ∃ r' F', Same F F' ∧ Rep T X.K B r' σ' F' H' ∧ PoS T cv X.K B F' E D (sWhile tA f m r'), ⟨n, r, F, Same.refl _, rep, h⟩, ?_⟩
  rintro m σ1 H1 ⟨r1, F1, s1, rep1, h1⟩
  cases m with
  | zero => exact h1.elim
  | succ m =>
    refine qc B r1 σ1 F1 H1 _ rep1 (PoS.bind h1 fun k r2 F2 H2 x _ s2 rep2 dx h2 => ?_)
    subst dx
    cases x with
    | false => exact iteF (h2 σ1 F2 H2 (Same.refl _) rep2)
    | true =>
      refine iteT ⟨fun σ' H' => ∃ r' F', Same F F' ∧ Rep T X.K B r' σ' F' H' ∧ PoS T cv X.K B F' E D (sWhile tA f m r'), fun σ' H' w => ⟨m, Nat.lt_succ_self m, w⟩, ?_⟩
      refine q B r2 σ1 F2 H2 _ rep2 ?_
      rw [if_pos rfl] at h2
      cases ef : f r2 with
      | ok fl r3 =>
        rw [ef] at h2
        cases fl with
        | nx => exact fun σ' F' H' s rep' => ⟨r3, F', (s1.trans s2).trans s, rep', PoS.from s h2⟩
        | ret d => exact h2
      | exc c r3 =>
        rw [ef] at h2
        exact h2
      | bad =>
        rw [ef] at h2
        exact h2
theorem ds_for {body : List Stmt} {g : Tg} {vs : List Nat} (hp : PassesOwn (model X.prog X.w) X.A X.env X.xe) (hc : X.calm = true) (hi : DI T cv X E tg iter fi) (hg : DG T X tg g vs) (hb : DSs T cv X E body f)
    (hs : ∀ x, foldedSetIterable iter X.env x = pure x := by intro _; rfl) : DS T cv X E (.For tg iter body [] pos) (sFor fi g f) := by
  obtain ⟨wi, pi, qi⟩ := hi
  obtain ⟨tg', pg, qg⟩ := hg
  obtain ⟨t, p, q⟩ := hb
  refine ⟨_, ps_for hp hc pi pg p hs, fun B r σ F H D rep h => ?_⟩
  refine qi B r σ F H _ rep (PoS.bind h fun xs r1 F1 H1 J er s1 rep1 wk h1 => ?_)
  refine ⟨fun i m σ' H' => m = xs.length - i ∧ i ≤ xs.length ∧ ∃ r' F', Same F1 F' ∧ Rep T X.K B r' σ' F' H' ∧ PoS T cv X.K B F' E D (forGo g f (xs.drop i) r'), ⟨xs.length, rfl, Nat.zero_le _, r1, F1, Same.refl _, rep1, h1⟩, ?_⟩
  rintro i m σ2 H2 ⟨rfl, hi, r2, F2, s2, rep2, h2⟩
  obtain ⟨stop, go⟩ := wk i H2 (s2.trans rep2.ext.sub)
  by_cases hlt : i < xs.length
  · obtain ⟨hgo, hy⟩ := go xs[i] (List.getElem?_eq_getElem hlt)
    rw [List.drop_eq_getElem_cons hlt] at h2
    refine .inr ⟨hgo, fun σ' H' => ∃ r' F', Same F1 F' ∧ Rep T X.K B r' σ' F' H' ∧ PoS T cv X.K B F' E D (forGo g f (xs.drop (i + 1)) r'), fun σ' H' w => ⟨xs.length - (i + 1), by omega, rfl, hlt, w⟩, fun x H3 yl => ?_⟩
    have body : ∀ F3, Same F2 F3 → Rep T X.K B r2 σ2 F3 H3 → Dv X.K F3 x xs[i] → tg' x σ2 H3 fun σ2 H2 => t { D with nx := fun σ' H' => ∃ r' F', Same F1 F' ∧ Rep T X.K B r' σ' F' H' ∧ PoS T cv X.K B F' E D (forGo g f (xs.drop (i + 1)) r'), ct := fun σ' H' => ∃ r' F', Same F1 F' ∧ Rep T X.K B r' σ' F' H' ∧ PoS T cv X.K B F' E D (forGo g f (xs.drop (i + 1)) r'), bk := D.nx } σ2 H2 := fun F3 s3 rep3 dv => by
      unfold forGo at h2
      cases eg : g xs[i] r2 with
      | none =>
        rw [eg] at h2
        exact h2.elim
      | some r3 =>
        rw [eg] at h2
        refine qg B r2 σ2 F3 H3 x xs[i] r3 _ rep3 dv eg fun σ' rep' _ => ?_
        refine q B r3 σ' F3 H3 _ rep' ?_
        dsimp only at h2
        cases ef : f r3 with
        | ok fl r4 =>
          rw [ef] at h2
          cases fl with
          | nx => exact fun σ4 F4 H4 s4 rep4 => ⟨r4, F4, (s2.trans s3).trans s4, rep4, PoS.from (s3.trans s4) h2⟩
          | ret d => exact fun σ4 F4 H4 v s4 => h2 σ4 F4 H4 v (s3.trans s4)
        | exc c r4 =>
          rw [ef] at h2
          exact fun σ4 F4 H4 s4 => h2 σ4 F4 H4 (s3.trans s4)
        | bad =>
          rw [ef] at h2
          exact h2
    rcases hy x H3 yl with ⟨e, dv⟩ | ⟨p0, us, ds, hn, e, ex, ed, dvs⟩
    · subst e
      exact body F2 (Same.refl _) rep2 (dv.mono s2)
    · subst e
      have n0 := rep2.free hn
      refine body (upd F2 p0 (.tup us)) (same_upd n0) (rep2.fresh hn not_tup) ?_
      rw [ex, ed]
      exact .tup upd_same (dvs.mono (s2.trans (same_upd n0)))
  · have e : i = xs.length := by omega
    subst e
    rw [List.drop_length] at h2
    exact .inl ⟨stop rfl, h2 σ2 F2 H2 (Same.refl _) rep2⟩
end
end FB
/-! Lists of one's own, raising, comprehensions, what is walked, defs. -/
namespace FB
open PySem PySem.Spec L2
open PyProof.Rows (envOfC)
section
variable {T : List (Addr × Str)} {cv : Nat → Value} {K : PySem.W.Frag} {B : Bs} {r : En} {σ : St} {F F1 H H1 F' H' : Hp} {E : XK}
theorem Ext.fresh_of (e : Ext T B F H) {p : Addr} (hp : H p = none) : Fresh B p ∧ ¬ B.O p := by
  have no : ¬ B.O p := fun z => by
    obtain ⟨o, h1, _⟩ := e.ob p z
    rw [hp] at h1
    cases h1
  refine ⟨fun o ho n => ?_, no⟩
  have z := e.hh p o ho n no
  rw [hp] at z
  cases z
/-- slot i gets a new list of its own -/
theorem Rep.set_own (h : Rep T K B r σ F H) (i : Nat) {p : Addr} {vs : List V} {ds : List D} (hp : H p = none) (hd : Dvs K F vs ds) : Rep T K B (r.set i (.own ds)) (σ.set i (some (.ref p))) F (upd H p (.lst vs)) := by
  have g := h.fresh' (o := .lst vs) hp
  have fr := h.ext.fresh_of hp
  have neq : ∀ (j : Nat) q, notOwn r[j]? = false → σ[j]? = some (some (.ref q)) → q ≠ p := fun j q n e z => by
    cases ej : r[j]? with
    | none =>
      rw [ej] at n
      cases n
    | some s =>
      cases s with
      | own xs =>
        obtain ⟨p', us, h1, h2, _⟩ := h.own j xs ej
        rw [e] at h1
        cases h1
        rw [z, hp] at h2
        cases h2
      | bor xs =>
        obtain ⟨p', us, h1, h2, _⟩ := h.bor j xs ej
        rw [e] at h1
        cases h1
        rw [z, hp] at h2
        cases h2
      | _ =>
        rw [ej] at n
        cases n
  have inl : ∀ (j : Nat) s, (r.set i (.own ds))[j]? = some s → (j = i ∧ j < r.length ∧ s = .own ds) ∨ (j ≠ i ∧ r[j]? = some s) := fun j s e => by
    by_cases hj : j = i
    · subst hj
      by_cases hl : j < r.length
      · rw [List.getElem?_set_self hl] at e
        exact .inl ⟨rfl, hl, (Option.some.inj e).symm⟩
      · rw [List.getElem?_eq_none (by simpa using hl)] at e
        cases e
    · rw [List.getElem?_set_ne (Ne.symm hj)] at e
      exact .inr ⟨hj, e⟩
  refine ⟨g.ext, by rw [List.length_set, List.length_set, h.len], fun j d e => ?_, fun j xs e => ?_, fun j xs e => ?_, fun j k q e1 e2 e3 e4 => ?_⟩
  · rcases inl j _ e with ⟨_, _, z⟩ | ⟨hj, z⟩
    · cases z
    · obtain ⟨v, h1, h2⟩ := g.dat j d z
      exact ⟨v, by rw [List.getElem?_set_ne (Ne.symm hj)]; exact h1, h2⟩
  · rcases inl j _ e with ⟨hj, hl, z⟩ | ⟨hj, z⟩
    · have z := Sl.own.inj z
      subst z hj
      exact ⟨p, vs, List.getElem?_set_self (by rw [← h.len]; exact hl), upd_same, h.free hp, hd, fr⟩
    · obtain ⟨q, us, h1, h2⟩ := g.own j xs z
      exact ⟨q, us, by rw [List.getElem?_set_ne (Ne.symm hj)]; exact h1, h2⟩
  · rcases inl j _ e with ⟨_, _, z⟩ | ⟨hj, z⟩
    · cases z
    · obtain ⟨q, us, h1, h2⟩ := g.bor j xs z
      exact ⟨q, us, by rw [List.getElem?_set_ne (Ne.symm hj)]; exact h1, h2⟩
  · have at1 : ∀ j : Nat, notOwn (r.set i (.own ds))[j]? = false → (j = i ∧ j < r.length) ∨ (j ≠ i ∧ notOwn r[j]? = false) := fun j n => by
      by_cases hj : j = i
      · subst hj
        by_cases hl : j < r.length
        · exact .inl ⟨rfl, hl⟩
        · rw [List.getElem?_eq_none (by simpa using hl)] at n
          cases n
      · rw [List.getElem?_set_ne (Ne.symm hj)] at n
        exact .inr ⟨hj, n⟩
    have self : ∀ j : Nat, j = i → j < r.length → (σ.set i (some (.ref p)))[j]? = some (some (.ref q)) → q = p := fun j hj hl e => by
      subst hj
      rw [List.getElem?_set_self (by rw [← h.len]; exact hl)] at e
      cases e
      rfl
    rcases at1 j e1 with ⟨a1, a2⟩ | ⟨a1, a2⟩
    · rcases at1 k e2 with ⟨b1, b2⟩ | ⟨b1, b2⟩
      · rw [a1, b1]
      · rw [List.getElem?_set_ne (Ne.symm b1)] at e4
        exact absurd (self j a1 a2 e3) (neq k q b2 e4)
    · rw [List.getElem?_set_ne (Ne.symm a1)] at e3
      rcases at1 k e2 with ⟨b1, b2⟩ | ⟨b1, b2⟩
      · exact absurd (self k b1 b2 e4) (neq j q a2 e3)
      · rw [List.getElem?_set_ne (Ne.symm b1)] at e4
        exact h.apart j k q a2 b2 e3 e4
/-- a list becomes a datum -/
theorem Rep.freeze {i : Nat} {xs : List D} (h : Rep T K B r σ F H) (hi : r[i]? = some (.own xs)) : ∃ F', Same F F' ∧ Rep T K B (r.set i (.dat (.lst xs))) σ F' H := by
  obtain ⟨p, vs, h1, h2, h3, h4, h5⟩ := h.own i xs hi
  have hil : i < r.length := (List.getElem?_eq_some_iff.mp hi).1
  have sF : Same F (upd F p (.lst vs)) := same_upd h3
  have neq : ∀ (j : Nat) q, j ≠ i → notOwn r[j]? = false → σ[j]? = some (some (.ref q)) → q ≠ p := fun j q hj n e z => hj (h.apart j i p n (by rw [hi]; rfl) (by rw [← z]; exact e) h1)
  refine ⟨upd F p (.lst vs), sF, ⟨h.ext.ff.trans sF, fun b o e => ?_, h.ext.hh, fun b o e n z => ?_, fun b hb => ?_, h.ext.tb, h.ext.nt.upd not_lst⟩, by rw [List.length_set, h.len], fun j d e => ?_, fun j ys e => ?_, fun j ys e => ?_, fun j k q e1 e2 e3 e4 => ?_⟩
  · by_cases hb : b = p
    · subst hb
      rw [upd_same] at e
      rw [h2]
      exact e
    · rw [upd_ne hb] at e
      exact h.ext.sub b o e
  · have hb : b ≠ p := fun q => h5.1 o (by rw [← q]; exact e) n
    rw [upd_ne hb]
    exact h.ext.nf b o e n z
  · obtain ⟨o, g1, g2, g3⟩ := h.ext.ob b hb
    have hne : b ≠ p := fun q => h5.2 (by rw [← q]; exact hb)
    exact ⟨o, g1, g2, by rw [upd_ne hne]; exact g3⟩
  · by_cases hj : j = i
    · subst hj
      rw [List.getElem?_set_self hil] at e
      have e := Sl.dat.inj (Option.some.inj e)
      subst e
      exact ⟨.ref p, h1, .lst upd_same (h4.mono sF)⟩
    · rw [List.getElem?_set_ne (Ne.symm hj)] at e
      obtain ⟨v, g1, g2⟩ := h.dat j d e
      exact ⟨v, g1, g2.mono sF⟩
  · by_cases hj : j = i
    · subst hj
      rw [List.getElem?_set_self hil] at e
      cases e
    · rw [List.getElem?_set_ne (Ne.symm hj)] at e
      obtain ⟨q, us, g1, g2, g3, g4, g5⟩ := h.own j ys e
      exact ⟨q, us, g1, g2, by rw [upd_ne (neq j q hj (by rw [e]; rfl) g1)]; exact g3, g4.mono sF, g5⟩
  · by_cases hj : j = i
    · subst hj
      rw [List.getElem?_set_self hil] at e
      cases e
    · rw [List.getElem?_set_ne (Ne.symm hj)] at e
      obtain ⟨q, us, g1, g2, g3, g4, g5⟩ := h.bor j ys e
      exact ⟨q, us, g1, g2, by rw [upd_ne (neq j q hj (by rw [e]; rfl) g1)]; exact g3, g4.mono sF, g5⟩
  · have at1 : ∀ j : Nat, notOwn (r.set i (.dat (.lst xs)))[j]? = false → notOwn r[j]? = false := fun j n => by
      by_cases hj : j = i
      · subst hj
        rw [List.getElem?_set_self hil] at n
        cases n
      · rwa [List.getElem?_set_ne (Ne.symm hj)] at n
    exact h.apart j k q (at1 j e1) (at1 k e2) e3 e4
end
section
variable {T : List (Addr × Str)} {cv : Nat → Value} {X : Cx} {E : XK} {e a b c tg iter : Expr} {es : List Expr} {pos : Pos} {fa fb fc : M D} {fs fi : M (List D)} {st : Stmt} {rest : List Stmt} {f g : M Fl} {tA : M Bool}
theorem ds_newL {i : Nat} {x : Str} {px lpos : Pos} (hN : X.N.Nodup) (hi : X.N[i]? = some x) (hx : Loc X.env.scope x) (h : DA T cv X E es fs) (hl : ∀ r ds r', fs r = .ok ds r' → ds.length ≤ lim)
    (hs : swapsWith (.List es lpos) (some (.Name x px)) pos.line X.env = pure false := by rfl) (hf : X.fn x = true ∨ X.env.scope.names.lookup x = some .local := by first | exact .inl rfl | exact .inr rfl | assumption) :
    DS T cv X E (.Assign [.Name x px] (.List es lpos) pos) (sNewL i fs) := by
  obtain ⟨t, p, q⟩ := h
  refine ⟨_, ps_set hN hi hx (pe_lst p) hs hf, fun B r σ F H D rep h => ?_⟩
  refine q B r σ F H _ rep (PoS.bind h fun ds r1 F1 H1 vs er s1 rep1 dvs h1 => ?_)
  have z := hl r ds r1 er
  refine ⟨by rw [dvs.len]; exact Nat.le_trans z (by decide), fun p hp => ?_⟩
  exact h1 _ F1 _ (Same.refl _) (rep1.set_own i hp dvs)
theorem ds_app {i : Nat} {y : Str} {py apos cpos : Pos} (hN : X.N[i]? = some y) (hv : Vis X.env.scope y) (he : DE T cv X E e fa) (hd : (y == ("__debug__" : Str)) = false := by decide) (hcd : (y == ("__classdict__" : Str)) = false := by decide)
    (hbase : attributeBase (.Name y py) "append" X.env (eval (.Name y py) X.env) = eval (.Name y py) X.env := by rfl)
    (hfew : ((backTo cpos (starEach [e] X.env)).all (fun x => !x.1) && (backToKw cpos (keywordEach [] X.env)).all (fun x => x.1.isSome)
      && decide ([e].length + ([] : List Keyword).length + (if ([] : List Keyword).isEmpty then 0 else 1) < 30)) = true := by rfl)
    (hline : (apos.endLine == cpos.line) = true := by rfl) (hs : starEach [e] X.env = (false, eval e X.env) :: starEach [] X.env := by rfl) (hplain : (backTo cpos (starEach [] X.env)).any (·.1) = false := by rfl)
    (hsw : swapsWith (.Call (.Attribute (.Name y py) "append" apos) [e] [] cpos) none pos.line X.env = pure false := by rfl) :
    DS T cv X E (.Expr (.Call (.Attribute (.Name y py) "append" apos) [e] [] cpos) pos) (sApp i fa) := by
  obtain ⟨t, p, q⟩ := he
  refine ⟨_, ps_expr (pe_bm PySem.F.plainAttrs_list PySem.F.slot_list_append PySem.F.type_list_append mt_append (pe_var hN hv hd hcd) (pa_cons p pa_nil hs) hbase hfew hline hs hplain) hsw, fun B r σ F H D rep h => ?_⟩
  unfold sApp at h
  split at h
  · exact h.elim
  rename_i hno
  have hno : notOwn r[i]? = false := by simpa using hno
  obtain ⟨p0, hp0⟩ := rep.slot hno
  have isl : ∃ vs, H p0 = some (.lst vs) := by
    cases ej : r[i]? with
    | none =>
      rw [ej] at hno
      cases hno
    | some s =>
      cases s with
      | own xs =>
        obtain ⟨p', us, h1, h2, _⟩ := rep.own i xs ej
        rw [hp0] at h1
        cases h1
        exact ⟨us, h2⟩
      | bor xs =>
        obtain ⟨p', us, h1, h2, _⟩ := rep.bor i xs ej
        rw [hp0] at h1
        cases h1
        exact ⟨us, h2⟩
      | _ =>
        rw [ej] at hno
        cases hno
  obtain ⟨vs0, hv0⟩ := isl
  refine ⟨.ref p0, hp0, .inl ⟨rfl, _, SqL.of hv0⟩, ?_⟩
  refine q B r σ F H _ rep (PoS.bind h fun d r1 F1 H1 v er s1 rep1 dv h1 => ?_)
  split at h1
  · rename_i ys hi
    split at h1
    · rename_i hlt
      obtain ⟨p', us, k1, k2, k3, k4, k5⟩ := rep1.own i ys hi
      rw [hp0] at k1
      cases k1
      refine ⟨p0, us, v, rfl, rfl, k2, by rw [k4.len]; exact Nat.lt_trans hlt (by decide), ?_⟩
      exact h1 σ F1 _ (Same.refl _) (rep1.turn hi (.inl ⟨rfl, rfl⟩) hp0 (Ext.write rep1.ext.sub rep1.ext.tb rep1.ext.nt k2 k3) upd_same (k4.append (.cons dv .nil)))
    · exact h1.elim
  · exact h1.elim
theorem ds_put {i j : Nat} {y : Str} {py ipos spos : Pos} {jj : Nat} (hN : X.N[i]? = some y) (hv : Vis X.env.scope y) (he : DE T cv X E e fa) (hd : (y == ("__debug__" : Str)) = false := by decide) (hcd : (y == ("__classdict__" : Str)) = false := by decide)
    (hs : swapsWithSole [.Subscript (.Name y py) (.Constant (.int (j : Int)) jj ipos) spos] e pos.line X.env = pure false := by rfl) (hw : swappedStores [.Subscript (.Name y py) (.Constant (.int (j : Int)) jj ipos) spos] e X.env = pure none := by rfl)
    (h1 : (assignEach [.Subscript (.Name y py) (.Constant (.int (j : Int)) jj ipos) spos] X.env).map (·.2) = [assign (.Subscript (.Name y py) (.Constant (.int (j : Int)) jj ipos) spos) X.env] := by rfl) :
    DS T cv X E (.Assign [.Subscript (.Name y py) (.Constant (.int (j : Int)) jj ipos) spos] e pos) (sPut i j fa) := by
  obtain ⟨t, p, q⟩ := he
  refine ⟨_, ps_asg p (pg_sub (pe_var hN hv hd hcd) pe_int set_list) hs hw h1, fun B r σ F H D rep h => ?_⟩
  refine q B r σ F H _ rep (PoS.bind h fun d r1 F1 H1 v er s1 rep1 dv h1 => ?_)
  split at h1
  · rename_i ys hi
    split at h1
    · rename_i hlt
      obtain ⟨p', us, k1, k2, k3, k4, k5⟩ := rep1.bor i ys hi
      refine ⟨.ref p', k1, p', us, (j : Int), j, rfl, rfl, k2, ?_, ?_⟩
      · unfold ixN
        rw [if_pos (by omega), if_pos (by rw [k4.len]; omega)]
        rfl
      · exact h1 σ F1 _ (Same.refl _) (rep1.turn hi (.inr ⟨rfl, rfl⟩) k1 (Ext.write rep1.ext.sub rep1.ext.tb rep1.ext.nt k2 k3) upd_same (k4.set j dv))
    · exact h1.elim
  · exact h1.elim
theorem dss_frz (i : Nat) {sts : List Stmt} (h : DSs T cv X E sts f) : DSs T cv X E sts (sFrz i f) := by
  obtain ⟨t, p, q⟩ := h
  refine ⟨t, p, fun B r σ F H D rep h => ?_⟩
  unfold sFrz at h
  split at h
  · rename_i ys hi
    obtain ⟨F', s, rep'⟩ := rep.freeze hi
    exact q B _ σ F' H D rep' (PoS.from s h)
  · exact h.elim
/-- raise C('..') -/
theorem ds_raise {cn : Nat} (hc : X.calm = true) (tk : Tk X E) (he : L2N.PMk X e (fun _ H Q => Q (cv cn) none H)) : DS T cv X E (.Raise (some e) none pos) (sRaise cn) :=
  ⟨_, L2N.ps_raise hc tk he, fun B r σ F H D rep h => h σ F H (Same.refl _) rep⟩
end
/-! ### what is walked -/
section
variable {T : List (Addr × Str)} {cv : Nat → Value} {X : Cx} {E : XK} {e a b c tg iter : Expr} {es : List Expr} {pos : Pos} {fa fb fc : M D} {fs fi : M (List D)}
theorem wk_list {K : PySem.W.Frag} {F : Hp} {a : Addr} {vs : List V} {ds : List D} (h : F a = some (.lst vs)) (d : Dvs K F vs ds) : Wk K F (Itl K a) ds := fun i H s => by
  have hA : SqL K H a vs := SqL.of (s _ _ h)
  refine ⟨fun hi => ⟨vs, hA, by rw [d.len]; exact Nat.le_of_eq hi⟩, fun x hx => ?_⟩
  obtain ⟨v, h1, h2⟩ := d.get hx
  exact ⟨⟨vs, v, hA, h1⟩, fun y H' yl => .inl ⟨yl.1, by
    have e := yl.2 vs hA
    rw [h1] at e
    cases e
    exact h2⟩⟩
theorem wk_tup {K : PySem.W.Frag} {F : Hp} {a : Addr} {vs : List V} {ds : List D} (h : F a = some (.tup vs)) (d : Dvs K F vs ds) : Wk K F (Itt K a) ds := fun i H s => by
  have hA : SqT K H a vs := SqT.of (s _ _ h)
  refine ⟨fun hi => ⟨vs, hA, by rw [d.len]; exact Nat.le_of_eq hi⟩, fun x hx => ?_⟩
  obtain ⟨v, h1, h2⟩ := d.get hx
  exact ⟨⟨vs, v, hA, h1⟩, fun y H' yl => .inl ⟨yl.1, by
    have e := yl.2 vs hA
    rw [h1] at e
    cases e
    exact h2⟩⟩
theorem sign_ok {x : Str} {c : Nat} {i : Nat} (ok : PyData.strOk x = true) (h : x.cps[i]? = some c) : PyData.strOk ⟨#[c]⟩ = true := by
  have z := Array.all_eq_true_iff_forall_mem.mp (show x.cps.all (· < 0x110000) = true from ok) c (Array.mem_of_getElem? h)
  show #[c].all (· < 0x110000) = true
  simpa using z
theorem sign_dv {K : PySem.W.Frag} {F : Hp} {x : Str} {c : Nat} {i : Nat} (ok : PyData.strOk x = true) (h : x.cps[i]? = some c) : Dv K F (.str ⟨#[c]⟩) (.str [c]) :=
  .str ⟨#[c]⟩ (by show 1 ≤ lim; decide) (sign_ok ok h)
theorem wk_str {K : PySem.W.Frag} {F : Hp} {x : Str} (ok : PyData.strOk x = true) : Wk K F (Its x) (x.cps.toList.map fun c => D.str [c]) := fun i H s => by
  refine ⟨fun hi => by
    show x.cps.size ≤ i
    have := Nat.le_of_eq hi
    simpa using this, fun d hd => ?_⟩
  rw [List.getElem?_map] at hd
  cases ec : x.cps.toList[i]? with
  | none =>
    rw [ec] at hd
    cases hd
  | some c =>
    rw [ec] at hd
    cases hd
    have ec' : x.cps[i]? = some c := by simpa using ec
    refine ⟨(Array.getElem?_eq_some_iff.mp ec').1, fun y H' yl => .inl ⟨yl.1, ?_⟩⟩
    obtain ⟨_, c', e1, e2⟩ := yl
    rw [ec'] at e1
    cases e1
    rw [e2]
    exact sign_dv ok ec'
theorem wk_rng {K : PySem.W.Frag} {F : Hp} {lo : Int} {n : Nat} : Wk K F (Itr lo n) ((List.range n).map fun i => D.int (lo + (i : Nat))) := fun i H s => by
  refine ⟨fun hi => by
    show n ≤ i
    have := Nat.le_of_eq hi
    simpa using this, fun d hd => ?_⟩
  rw [List.getElem?_map] at hd
  by_cases hi : i < n
  · rw [List.getElem?_range hi] at hd
    cases hd
    exact ⟨hi, fun y H' yl => .inl ⟨yl.1, by rw [yl.2]; exact .int _⟩⟩
  · rw [List.getElem?_eq_none (by simpa using hi)] at hd
    cases hd
theorem di_l (h : DE T cv X E iter fa) : DI T cv X E tg iter (iL fa) := by
  obtain ⟨t, p, q⟩ := h
  refine ⟨_, pi_list p, fun B r σ F H R rep h => ?_⟩
  refine q B r σ F H _ rep (Po.bind h fun d r1 F1 H1 v er s1 rep1 dv h1 => ?_)
  cases dv with
  | lst hF dvs => exact ⟨_, rfl, ⟨_, SqL.of (rep1.ext.sub _ _ hF)⟩, h1 F1 H1 _ (Same.refl _) rep1 (wk_list hF dvs)⟩
  | _ => exact h1.elim
theorem di_t (h : DE T cv X E iter fa) : DI T cv X E tg iter (iT fa) := by
  obtain ⟨t, p, q⟩ := h
  refine ⟨_, pi_tup p, fun B r σ F H R rep h => ?_⟩
  refine q B r σ F H _ rep (Po.bind h fun d r1 F1 H1 v er s1 rep1 dv h1 => ?_)
  cases dv with
  | tup hF dvs => exact ⟨_, rfl, ⟨_, SqT.of (rep1.ext.sub _ _ hF)⟩, h1 F1 H1 _ (Same.refl _) rep1 (wk_tup hF dvs)⟩
  | _ => exact h1.elim
theorem di_s (h : DE T cv X E iter fa) : DI T cv X E tg iter (iS fa) := by
  obtain ⟨t, p, q⟩ := h
  refine ⟨_, pi_str p, fun B r σ F H R rep h => ?_⟩
  refine q B r σ F H _ rep (Po.bind h fun d r1 F1 H1 v er s1 rep1 dv h1 => ?_)
  cases dv with
  | str x _ ok => exact ⟨_, rfl, h1 F1 H1 _ (Same.refl _) rep1 (wk_str ok)⟩
  | _ => exact h1.elim
theorem di_r1 {p : Pos} (hg : Gl X "range") (hm : X.mg "range" = none) (ha : DA T cv X E [a] fs) (hs : starEach [a] X.env = [(false, eval a X.env)] := by rfl) : DI T cv X E tg (.Call (.Name "range" p) [a] [] pos) (iRange1 fs) := by
  obtain ⟨t, pp, q⟩ := ha
  refine ⟨_, pi_range1 hg hm pp hs, fun B r σ F H R rep h => ?_⟩
  refine q B r σ F H _ rep (Po.bind h fun ds r1 F1 H1 vs er s1 rep1 dvs h1 => ?_)
  split at h1
  · rename_i n
    split at h1
    · rename_i hn
      cases dvs with
      | cons d1 dr =>
        cases dr
        cases d1
        refine ⟨n, rfl, by omega, by omega, h1 F1 H1 _ (Same.refl _) rep1 ?_⟩
        have e : (fun i : Nat => D.int (i : Nat)) = fun i : Nat => D.int (0 + (i : Nat)) := by
          funext i
          rw [Int.zero_add]
        rw [e]
        exact wk_rng
    · exact h1.elim
  · exact h1.elim
end
/-! ### defs -/
section
variable {P : Program} {w : World} {K : PySem.W.Frag} {mg : Str → Option Value} {base : Heap} {T : List (Addr × Str)} {cv : Nat → Value}
theorem Fun.okN {x qual : Str} {st : Stmt} {f : Addr} {fd : FuncData} {N ps : List Str} {k : Nat} {sp : Sp} (F : Fun K x qual st f fd) (S : FnScope N ps (defScope st)) (len : ∀ vs H Q E, sp vs H Q E → vs.length = ps.length)
    (hbody : ∀ (cdv : Value) (A : Around) (outer : List Env) (s : Shared) (H : Hp) (vs : List V) (Q : VK) (E : XK), Room k (A.deeper (envOfC qual (defScope st) s.heap.objs.size f cdv)) → sp vs H Q E →
      ∃ t, PSs (cxOf (L2N.CX P w) P w K mg base N qual (defScope st) f cdv A outer s H E) (defBody st) t ∧ t { nx := fun _ H' => Q .non H', rt := Q } (L2.start N vs) H) : FnOk P w K mg base (L2N.CX P w) (k + 1) f fd ps sp := by
  obtain ⟨oc, od, kV, doc, pm, an, cdv, ct, osl, rfl, lk, hcd⟩ := F.ex
  exact fn_of lk hcd S len fun A outer s H vs Q E hr hsp => hbody cdv A outer s H vs Q E hr hsp
theorem start_rep {F H : Hp} {N : List Str} {vs : List V} {ds : List D} (s : Same F H) (t : LamX.Tabs T H ∧ NT F) (d : Dvs K F vs ds) (hl : vs.length ≤ N.length) : Rep T K ⟨fun _ => False, F, H⟩ (startE N.length ds) (L2.start N vs) F H := by
  have hd := d.len
  have noO : ∀ (i : Nat) s, (startE N.length ds)[i]? = some s → (∃ e, s = .dat e ∧ ds[i]? = some e) ∨ s = .un := fun i s e => by
    unfold startE at e
    by_cases hi : i < ds.length
    · rw [List.getElem?_append_left (by simpa using hi), List.getElem?_map, List.getElem?_eq_getElem hi] at e
      have e := Option.some.inj e
      exact .inl ⟨_, e.symm, List.getElem?_eq_getElem hi⟩
    · rw [List.getElem?_append_right (by simpa using hi), List.getElem?_replicate] at e
      split at e
      · exact .inr (Option.some.inj e).symm
      · cases e
  refine ⟨Ext.refl s t.1 t.2 fun b z => z.elim, ?_, fun i e h => ?_, fun i xs h => ?_, fun i xs h => ?_, fun i j p h1 h2 => ?_⟩
  · unfold startE L2.start
    rw [List.length_append, List.length_append, List.length_map, List.length_map, List.length_replicate, List.length_replicate, hd]
  · rcases noO i _ h with ⟨e', h1, h2⟩ | h1
    · cases h1
      obtain ⟨v, g1, g2⟩ := d.get h2
      refine ⟨v, ?_, g2⟩
      unfold L2.start
      have hi := (List.getElem?_eq_some_iff.mp g1).1
      rw [List.getElem?_append_left (by simpa using hi), List.getElem?_map, g1]
      rfl
    · cases h1
  · rcases noO i _ h with ⟨e', h1, h2⟩ | h1 <;> cases h1
  · rcases noO i _ h with ⟨e', h1, h2⟩ | h1 <;> cases h1
  · cases e : (startE N.length ds)[i]? with
    | none =>
      rw [e] at h1
      cases h1
    | some s =>
      rcases noO i _ e with ⟨e', h3, h4⟩ | h3 <;> rw [e, h3] at h1 <;> cases h1
/-- THE RULE for a def: its body by the judgements -/
theorem fn_d {x : Str} {st : Stmt} {f : Addr} {fd : FuncData} {N ps : List Str} {k n : Nat} {b : M Fl} (F : Fun K x x st f fd) (hm : mg x = some (.ref f)) (bi : Binds K fd ps []) (S : FnScope N ps (defScope st)) (hn : ps.length = n) (hN : ps.length ≤ N.length)
    (hb : ∀ (cdv : Value) (A : Around) (outer : List Env) (s : Shared) (H : Hp) (E : XK), Room k (A.deeper (envOfC x (defScope st) s.heap.objs.size f cdv)) →
      DSs T cv (cxOf (L2N.CX P w) P w K mg base N x (defScope st) f cdv A outer s H E) E (defBody st) b) : Has P w K mg base T cv (k + 1) x n (runD n N.length b) := by
  refine ⟨f, fd, ps, hm, F.kp, bi, ?_⟩
  refine Fun.okN F S (fun vs H Q E h => ?_) (fun cdv A outer s H vs Q E hr h => ?_)
  · obtain ⟨_, _, h1, _⟩ := h
    rw [h1, hn]
  · obtain ⟨Fh, ds, h1, h2, h3, h4, h5⟩ := h
    obtain ⟨t, p, q⟩ := hb cdv A outer s H E hr
    refine ⟨t, p, q ⟨fun _ => False, Fh, H⟩ (startE N.length ds) (L2.start N vs) Fh H _ (start_rep h2 h3 h4 (by omega)) ?_⟩
    unfold runD at h5
    rw [if_pos (by rw [← h4.len]; exact h1)] at h5
    cases er : b (startE N.length ds) with
    | ok fl r =>
      rw [er] at h5
      cases fl with
      | nx => exact fun σ' F' H' s' rep' => h5 F' H' .non rep'.ext .non
      | ret d => exact fun σ' F' H' v s' rep' dv => h5 F' H' v rep'.ext dv
    | exc c r =>
      rw [er] at h5
      exact fun σ' F' H' s' rep' => h5 F' H' rep'.ext
    | bad =>
      rw [er] at h5
      exact h5
theorem fn_o {x : Str} {st : Stmt} {f : Addr} {fd : FuncData} {N ps : List Str} {k n : Nat} {b : M Fl} (F : Fun K x x st f fd) (hm : mg x = some (.ref f)) (bi : Binds K fd ps []) (S : FnScope N ps (defScope st)) (hn : ps.length = n) (hN : ps.length ≤ N.length) (h0 : 0 < ps.length)
    (hb : ∀ (cdv : Value) (A : Around) (outer : List Env) (s : Shared) (H : Hp) (E : XK), Room k (A.deeper (envOfC x (defScope st) s.heap.objs.size f cdv)) →
      DSs T cv (cxOf (L2N.CX P w) P w K mg base N x (defScope st) f cdv A outer s H E) E (defBody st) b) : HasO P w K mg base T cv (k + 1) x n (runO n N.length b) := by
  refine ⟨f, fd, ps, hm, F.kp, bi, ?_⟩
  refine Fun.okN F S (fun vs H Q E h => ?_) (fun cdv A outer s H vs Q E hr h => ?_)
  · obtain ⟨_, _, _, _, _, _, _, h1, _⟩ := h
    rw [h1, hn]
  · obtain ⟨Fh, p0, us, xs, ws, ds, e0, h1, h2, h3, k1, k2, k3, h4, h5⟩ := h
    subst e0
    obtain ⟨t, p, q⟩ := hb cdv A outer s H E hr
    have hlw : ws.length + 1 = n := h1
    have hd := h4.len
    obtain ⟨N0, N1, eN⟩ : ∃ N0 N1, N = N0 :: N1 := by
      cases N with
      | nil =>
        simp only [List.length_nil] at hN
        omega
      | cons a b => exact ⟨a, b, rfl⟩
    have eL : N.length - 1 = N1.length := by rw [eN]; rfl
    have rep1 := start_rep (T := T) (N := N1) h2 h3 h4 (by rw [eN, List.length_cons] at hN; omega)
    have eS : L2.start N (.ref p0 :: ws) = some (.ref p0) :: L2.start N1 ws := by
      unfold L2.start
      rw [eN]
      simp
    have rep : Rep T K ⟨fun b => b = p0, Fh, H⟩ (.bor xs :: startE (N.length - 1) ds) (L2.start N (.ref p0 :: ws)) Fh H := by
      rw [eL, eS]
      refine ⟨Ext.refl h2 h3.1 h3.2 fun b z => by rw [z]; exact ⟨_, k1, not_lst, k2⟩, by rw [List.length_cons, List.length_cons, rep1.len], fun i d h => ?_, fun i ys h => ?_, fun i ys h => ?_, fun i j b e1 e2 => ?_⟩
      · cases i with
        | zero => cases h
        | succ i => exact rep1.dat i d h
      · cases i with
        | zero => cases h
        | succ i =>
          obtain ⟨_, _, _, _, _, _, z⟩ := rep1.own i ys h
          obtain ⟨p', vs', g1, g2, g3, g4, g5⟩ := rep1.own i ys h
          exact (g5.1 _ g2 not_lst).elim
      · cases i with
        | zero =>
          cases h
          exact ⟨p0, us, rfl, k1, k2, k3, rfl⟩
        | succ i =>
          obtain ⟨_, _, _, _, _, _, z⟩ := rep1.bor i ys h
          exact z.elim
      · cases i with
        | zero =>
          cases j with
          | zero => exact fun _ _ => rfl
          | succ j =>
            cases ej : (startE N1.length ds)[j]? with
            | none =>
              have e2 : notOwn (startE N1.length ds)[j]? = false := e2
              rw [ej] at e2
              cases e2
            | some s =>
              have e2 : notOwn (startE N1.length ds)[j]? = false := e2
              cases s with
              | own zs =>
                obtain ⟨p', vs', g1, g2, g3, g4, g5⟩ := rep1.own j zs ej
                exact (g5.1 _ g2 not_lst).elim
              | bor zs =>
                obtain ⟨_, _, _, _, _, _, z⟩ := rep1.bor j zs ej
                exact z.elim
              | _ =>
                rw [ej] at e2
                cases e2
        | succ i =>
          have e1 : notOwn (startE N1.length ds)[i]? = false := e1
          cases ej : (startE N1.length ds)[i]? with
          | none =>
            rw [ej] at e1
            cases e1
          | some s =>
            cases s with
            | own zs =>
              obtain ⟨p', vs', g1, g2, g3, g4, g5⟩ := rep1.own i zs ej
              exact (g5.1 _ g2 not_lst).elim
            | bor zs =>
              obtain ⟨_, _, _, _, _, _, z⟩ := rep1.bor i zs ej
              exact z.elim
            | _ =>
              rw [ej] at e1
              cases e1
    refine ⟨t, p, q ⟨fun b => b = p0, Fh, H⟩ _ _ Fh H _ rep ?_⟩
    unfold runO at h5
    rw [if_pos (by rw [← hd]; exact hlw)] at h5
    -- where the list stands at the end
    have fin : ∀ {r : En} {ys : List D} {σ' : St} {F' H' : Hp}, Rep T K ⟨fun b => b = p0, Fh, H⟩ r σ' F' H' → r[0]? = some (.bor ys) → ∃ us', H' p0 = some (.lst us') ∧ Dvs K F' us' ys := fun {r ys σ' F' H'} rep' e => by
      obtain ⟨p', us', g1, g2, g3, g4, g5⟩ := rep'.bor 0 ys e
      have g5 : p' = p0 := g5
      subst g5
      exact ⟨us', g2, g4⟩
    cases er : b (.bor xs :: startE (N.length - 1) ds) with
    | ok fl r =>
      rw [er] at h5
      unfold finO at h5
      dsimp only at h5
      split at h5
      · rename_i ys e0
        cases fl with
        | nx =>
          exact fun σ' F' H' s' rep' => by
            obtain ⟨us', g1, g2⟩ := fin rep' e0
            exact h5 F' H' .non us' rep'.ext g1 g2 .non
        | ret d =>
          exact fun σ' F' H' v s' rep' dv => by
            obtain ⟨us', g1, g2⟩ := fin rep' e0
            exact h5 F' H' v us' rep'.ext g1 g2 dv
      · exact h5.elim
    | exc c r =>
      rw [er] at h5
      unfold finO at h5
      dsimp only at h5
      split at h5
      · rename_i ys e0
        exact fun σ' F' H' s' rep' => by
          obtain ⟨us', g1, g2⟩ := fin rep' e0
          exact h5 F' H' us' rep'.ext g1 g2
      · exact h5.elim
    | bad =>
      rw [er] at h5
      exact h5.elim
end
end FB
/-! Comprehensions. -/
namespace FB
open PySem PySem.Spec L2
section
variable {T : List (Addr × Str)} {cv : Nat → Value} {K : PySem.W.Frag} {B : Bs} {r : En} {σ : St} {F F1 H H1 F' H' : Hp} {E : XK}
theorem Rep.addr (h : Rep T K B r σ F H) {j : Nat} (n : notOwn r[j]? = false) : ∃ p us, σ[j]? = some (some (.ref p)) ∧ H p = some (.lst us) ∧ F p = none := by
  cases e : r[j]? with
  | none =>
    rw [e] at n
    cases n
  | some s =>
    cases s with
    | own xs =>
      obtain ⟨p, us, h1, h2, h3, _⟩ := h.own j xs e
      exact ⟨p, us, h1, h2, h3⟩
    | bor xs =>
      obtain ⟨p, us, h1, h2, h3, _⟩ := h.bor j xs e
      exact ⟨p, us, h1, h2, h3⟩
    | _ =>
      rw [e] at n
      cases n
def Off (r : En) (σ : St) (b : Addr) : Prop := ∀ j : Nat, notOwn r[j]? = false → σ[j]? ≠ some (some (.ref b))
/-- a new base at the state as it stands: what stands there besides the slots' own lists is kept -/
theorem Rep.rebase (h : Rep T K B r σ F H) : ∃ B', Rep T K B' r σ F H ∧ (∀ r' σ' F' H', Rep T K B' r' σ' F' H' → Rep T K B r' σ' F' H' ∧ Same F F') ∧
    ∀ b o, H b = some o → NoT o → Off r σ b → ∀ r' σ' F' H', Rep T K B' r' σ' F' H' → H' b = some o ∧ (F b = none → F' b = none) ∧ Off r' σ' b := by
  obtain ⟨HB, hb1, hb2⟩ : ∃ HB : Hp, (∀ b, (∃ (j : Nat) (xs : List D), r[j]? = some (.own xs) ∧ σ[j]? = some (some (.ref b))) → HB b = none) ∧ ∀ b, ¬ (∃ (j : Nat) (xs : List D), r[j]? = some (.own xs) ∧ σ[j]? = some (some (.ref b))) → HB b = H b := by
    classical
    refine ⟨fun b => if (∃ (j : Nat) (xs : List D), r[j]? = some (.own xs) ∧ σ[j]? = some (some (.ref b))) then none else H b, fun b hb => if_pos hb, fun b hb => if_neg hb⟩
  have hbH : ∀ b o, HB b = some o → H b = some o := fun b o e => by
    by_cases hb : ∃ (j : Nat) (xs : List D), r[j]? = some (.own xs) ∧ σ[j]? = some (some (.ref b))
    · rw [hb1 b hb] at e
      cases e
    · rw [← hb2 b hb]
      exact e
  -- what the old base knows is no list of a slot's own
  have known : ∀ b o, B.H b = some o → NoT o → ¬ ∃ (j : Nat) (xs : List D), r[j]? = some (.own xs) ∧ σ[j]? = some (some (.ref b)) := fun b o e n ⟨j, xs, h1, h2⟩ => by
    obtain ⟨p, us, g1, g2, g3, g4, g5⟩ := h.own j xs h1
    rw [h2] at g1
    cases g1
    exact g5.1 o e n
  have knownO : ∀ b, B.O b → ¬ ∃ (j : Nat) (xs : List D), r[j]? = some (.own xs) ∧ σ[j]? = some (some (.ref b)) := fun b e ⟨j, xs, h1, h2⟩ => by
    obtain ⟨p, us, g1, g2, g3, g4, g5⟩ := h.own j xs h1
    rw [h2] at g1
    cases g1
    exact g5.2 e
  have borO : ∀ b, (∃ (j : Nat) (xs : List D), r[j]? = some (.bor xs) ∧ σ[j]? = some (some (.ref b))) → B.O b := fun b ⟨j, xs, h1, h2⟩ => by
    obtain ⟨p, us, g1, g2, g3, g4, g5⟩ := h.bor j xs h1
    rw [h2] at g1
    cases g1
    exact g5
  refine ⟨⟨fun b => ∃ (j : Nat) (xs : List D), r[j]? = some (.bor xs) ∧ σ[j]? = some (some (.ref b)), F, HB⟩, ?_, fun r' σ' F' H' h' => ?_, fun b o e n off r' σ' F' H' h' => ?_⟩
  · refine ⟨⟨Same.refl _, h.ext.sub, fun b o e _ _ => hbH b o e, fun b o e _ z => z, fun b hb => ?_, h.ext.tb, h.ext.nt⟩, h.len, h.dat, fun i xs e => ?_, fun i xs e => ?_, h.apart⟩
    · obtain ⟨j, xs, h1, h2⟩ := hb
      obtain ⟨p, us, g1, g2, g3, g4, g5⟩ := h.bor j xs h1
      rw [h2] at g1
      cases g1
      exact ⟨_, g2, not_lst, g3⟩
    · obtain ⟨p, us, g1, g2, g3, g4, g5⟩ := h.own i xs e
      refine ⟨p, us, g1, g2, g3, g4, fun o z => ?_, fun ⟨j, ys, z1, z2⟩ => ?_⟩
      · have z : HB p = some o := z
        rw [hb1 p ⟨i, xs, e, g1⟩] at z
        cases z
      · have q := h.apart i j p (by rw [e]; rfl) (by rw [z1]; rfl) g1 z2
        rw [← q, e] at z1
        cases z1
    · obtain ⟨p, us, g1, g2, g3, g4, g5⟩ := h.bor i xs e
      exact ⟨p, us, g1, g2, g3, g4, i, xs, e, g1⟩
  · have e' := h'.ext
    have kept : ∀ b o, H b = some o → NoT o → ¬ (∃ (j : Nat) (xs : List D), r[j]? = some (.own xs) ∧ σ[j]? = some (some (.ref b))) → ¬ (∃ (j : Nat) (xs : List D), r[j]? = some (.bor xs) ∧ σ[j]? = some (some (.ref b))) → H' b = some o := fun b o z n n1 n2 =>
      e'.hh b o (by show HB b = some o; rw [hb2 b n1]; exact z) n n2
    have keptF : ∀ b o, H b = some o → NoT o → ¬ (∃ (j : Nat) (xs : List D), r[j]? = some (.own xs) ∧ σ[j]? = some (some (.ref b))) → F b = none → F' b = none := fun b o z n n1 f =>
      e'.nf b o (by show HB b = some o; rw [hb2 b n1]; exact z) n f
    refine ⟨⟨⟨h.ext.ff.trans e'.ff, e'.sub, fun b o z n no => ?_, fun b o z n f => ?_, fun b hb => ?_, e'.tb, e'.nt⟩, h'.len, h'.dat, fun i xs q => ?_, fun i xs q => ?_, h'.apart⟩, e'.ff⟩
    · exact kept b o (h.ext.hh b o z n no) n (known b o z n) fun q => no (borO b q)
    · have f1 := h.ext.nf b o z n f
      by_cases hO : B.O b
      · obtain ⟨o', g1, g2, g3⟩ := h.ext.ob b hO
        exact keptF b o' g1 g2 (knownO b hO) g3
      · exact keptF b o (h.ext.hh b o z n hO) n (known b o z n) f1
    · by_cases hb' : ∃ (j : Nat) (xs : List D), r[j]? = some (.bor xs) ∧ σ[j]? = some (some (.ref b))
      · exact e'.ob b hb'
      · obtain ⟨o', g1, g2, g3⟩ := h.ext.ob b hb
        exact ⟨o', kept b o' g1 g2 (knownO b hb) hb', g2, keptF b o' g1 g2 (knownO b hb) g3⟩
    · obtain ⟨p, us, g1, g2, g3, g4, g5, g6⟩ := h'.own i xs q
      have nO : ¬ B.O p := fun hO => by
        obtain ⟨o', z1, z2, z3⟩ := h.ext.ob p hO
        exact g5 o' (by show HB p = some o'; rw [hb2 p (knownO p hO)]; exact z1) z2
      refine ⟨p, us, g1, g2, g3, g4, fun o z n => ?_, nO⟩
      exact g5 o (by show HB p = some o; rw [hb2 p (known p o z n)]; exact h.ext.hh p o z n nO) n
    · obtain ⟨p, us, g1, g2, g3, g4, g5⟩ := h'.bor i xs q
      exact ⟨p, us, g1, g2, g3, g4, borO p g5⟩
  · have e' := h'.ext
    have n1 : ¬ (∃ (j : Nat) (xs : List D), r[j]? = some (.own xs) ∧ σ[j]? = some (some (.ref b))) := fun ⟨j, xs, z1, z2⟩ => off j (by rw [z1]; rfl) z2
    have n2 : ¬ (∃ (j : Nat) (xs : List D), r[j]? = some (.bor xs) ∧ σ[j]? = some (some (.ref b))) := fun ⟨j, xs, z1, z2⟩ => off j (by rw [z1]; rfl) z2
    have hB : HB b = some o := by rw [hb2 b n1]; exact e
    refine ⟨e'.hh b o hB n n2, fun f => e'.nf b o hB n f, fun j nj hj => ?_⟩
    cases ej : r'[j]? with
    | none =>
      rw [ej] at nj
      cases nj
    | some s =>
      cases s with
      | own xs =>
        obtain ⟨p, us, g1, g2, g3, g4, g5, g6⟩ := h'.own j xs ej
        rw [hj] at g1
        cases g1
        exact g5 o hB n
      | bor xs =>
        obtain ⟨p, us, g1, g2, g3, g4, g5⟩ := h'.bor j xs ej
        rw [hj] at g1
        cases g1
        exact n2 g5
      | _ =>
        rw [ej] at nj
        cases nj
/-- a list beside the slots is written -/
theorem Rep.side (h : Rep T K B r σ F H) {b : Addr} {us vs : List V} (hb : H b = some (.lst us)) (hf : F b = none) (fr : Fresh B b ∧ ¬ B.O b) (off : Off r σ b) : Rep T K B r σ F (upd H b (.lst vs)) := by
  have e := Ext.write (us := vs) h.ext.sub h.ext.tb h.ext.nt hb hf
  refine ⟨h.ext.comp e fun c hc => by rw [hc]; exact .inr fr.1, h.len, h.dat, fun i xs q => ?_, fun i xs q => ?_, h.apart⟩
  · obtain ⟨p, ws, g1, g2, g3, g4, g5⟩ := h.own i xs q
    have hne : p ≠ b := fun z => off i (by rw [q]; rfl) (by rw [← z]; exact g1)
    exact ⟨p, ws, g1, by rw [upd_ne hne]; exact g2, g3, g4, g5⟩
  · obtain ⟨p, ws, g1, g2, g3, g4, g5⟩ := h.bor i xs q
    have hne : p ≠ b := fun z => off i (by rw [q]; rfl) (by rw [← z]; exact g1)
    exact ⟨p, ws, g1, by rw [upd_ne hne]; exact g2, g3, g4, g5⟩
/-- .. becomes a datum -/
theorem Rep.side_frz (h : Rep T K B r σ F H) {b : Addr} {us : List V} (hb : H b = some (.lst us)) (hf : F b = none) (fr : Fresh B b ∧ ¬ B.O b) (off : Off r σ b) : Rep T K B r σ (upd F b (.lst us)) H := by
  have sF : Same F (upd F b (.lst us)) := same_upd hf
  refine ⟨⟨h.ext.ff.trans sF, fun c o e => ?_, h.ext.hh, fun c o e n z => ?_, fun c hc => ?_, h.ext.tb, h.ext.nt.upd not_lst⟩, h.len, fun i d e => ?_, fun i xs q => ?_, fun i xs q => ?_, h.apart⟩
  · by_cases hc : c = b
    · subst hc
      rw [upd_same] at e
      rw [hb]
      exact e
    · rw [upd_ne hc] at e
      exact h.ext.sub c o e
  · have hc : c ≠ b := fun q => fr.1 o (by rw [← q]; exact e) n
    rw [upd_ne hc]
    exact h.ext.nf c o e n z
  · obtain ⟨o, g1, g2, g3⟩ := h.ext.ob c hc
    have hne : c ≠ b := fun q => fr.2 (by rw [← q]; exact hc)
    exact ⟨o, g1, g2, by rw [upd_ne hne]; exact g3⟩
  · obtain ⟨v, g1, g2⟩ := h.dat i d e
    exact ⟨v, g1, g2.mono sF⟩
  · obtain ⟨p, ws, g1, g2, g3, g4, g5⟩ := h.own i xs q
    have hne : p ≠ b := fun z => off i (by rw [q]; rfl) (by rw [← z]; exact g1)
    exact ⟨p, ws, g1, g2, by rw [upd_ne hne]; exact g3, g4.mono sF, g5⟩
  · obtain ⟨p, ws, g1, g2, g3, g4, g5⟩ := h.bor i xs q
    have hne : p ≠ b := fun z => off i (by rw [q]; rfl) (by rw [← z]; exact g1)
    exact ⟨p, ws, g1, g2, by rw [upd_ne hne]; exact g3, g4.mono sF, g5⟩
/-! ### slots forgotten -/
theorem wipeE_len : ∀ (vs : List Nat) (r : En), (wipeE vs r).length = r.length
  | [], _ => rfl
  | v :: vs, r => by
    show ((wipeE vs r).set v .un).length = _
    rw [List.length_set, wipeE_len vs r]
theorem wipeE_get {s : Sl} (ns : s ≠ .un) : ∀ {vs : List Nat} {r : En} {j : Nat}, (wipeE vs r)[j]? = some s → j ∉ vs ∧ r[j]? = some s
  | [], _, _, h => ⟨by simp, h⟩
  | v :: vs, r, j, h => by
    have h : ((wipeE vs r).set v .un)[j]? = some s := h
    by_cases hj : v = j
    · subst hj
      by_cases hl : v < (wipeE vs r).length
      · rw [List.getElem?_set_self hl] at h
        exact absurd (Option.some.inj h).symm ns
      · rw [List.getElem?_eq_none (by simpa using hl)] at h
        cases h
    · rw [List.getElem?_set_ne hj] at h
      obtain ⟨h1, h2⟩ := wipeE_get ns h
      exact ⟨by simp only [List.mem_cons, not_or]; exact ⟨fun e => hj e.symm, h1⟩, h2⟩
theorem wipe_get {σ : St} : ∀ {vs : List Nat} {j : Nat}, j ∉ vs → (wipe σ vs)[j]? = σ[j]?
  | [], _, _ => rfl
  | v :: vs, j, h => by
    show ((wipe σ vs).set v none)[j]? = σ[j]?
    rw [List.getElem?_set_ne (fun e => h (by rw [e]; exact List.mem_cons_self)), wipe_get fun z => h (List.mem_cons_of_mem _ z)]
theorem wipe_none {σ : St} : ∀ {vs : List Nat} {j : Nat}, j ∈ vs → j < σ.length → (wipe σ vs)[j]? = some none
  | v :: vs, j, h, hl => by
    show ((wipe σ vs).set v none)[j]? = some none
    by_cases hj : v = j
    · subst hj
      rw [List.getElem?_set_self (by rw [wipe_length]; exact hl)]
    · rw [List.getElem?_set_ne hj]
      rcases List.mem_cons.mp h with e | e
      · exact absurd e.symm hj
      · exact wipe_none e hl
theorem wipe_twice (σ : St) (vs : List Nat) : L2.wipe (L2.wipe σ vs) vs = L2.wipe σ vs := by
  refine List.ext_getElem? fun j => ?_
  by_cases hj : j ∈ vs
  · by_cases hl : j < σ.length
    · rw [wipe_none hj hl, wipe_none hj (by rw [wipe_length]; exact hl)]
    · rw [List.getElem?_eq_none (by rw [wipe_length, wipe_length]; omega), List.getElem?_eq_none (by rw [wipe_length]; omega)]
  · rw [wipe_get hj]
theorem notOwn_wipe {vs : List Nat} {r : En} {j : Nat} (h : notOwn (wipeE vs r)[j]? = false) : j ∉ vs ∧ notOwn r[j]? = false := by
  cases e : (wipeE vs r)[j]? with
  | none =>
    rw [e] at h
    cases h
  | some s =>
    cases s with
    | own xs =>
      obtain ⟨h1, h2⟩ := wipeE_get (by intro z; cases z) e
      exact ⟨h1, by rw [h2]; rfl⟩
    | bor xs =>
      obtain ⟨h1, h2⟩ := wipeE_get (by intro z; cases z) e
      exact ⟨h1, by rw [h2]; rfl⟩
    | _ =>
      rw [e] at h
      cases h
theorem Rep.wipe (h : Rep T K B r σ F H) (vs : List Nat) : Rep T K B (wipeE vs r) (L2.wipe σ vs) F H := by
  refine ⟨h.ext, by rw [wipeE_len, wipe_length, h.len], fun i d e => ?_, fun i xs e => ?_, fun i xs e => ?_, fun i j p e1 e2 e3 e4 => ?_⟩
  · obtain ⟨h1, h2⟩ := wipeE_get (by intro z; cases z) e
    obtain ⟨v, g1, g2⟩ := h.dat i d h2
    exact ⟨v, by rw [wipe_get h1]; exact g1, g2⟩
  · obtain ⟨h1, h2⟩ := wipeE_get (by intro z; cases z) e
    obtain ⟨p, us, g1, g2⟩ := h.own i xs h2
    exact ⟨p, us, by rw [wipe_get h1]; exact g1, g2⟩
  · obtain ⟨h1, h2⟩ := wipeE_get (by intro z; cases z) e
    obtain ⟨p, us, g1, g2⟩ := h.bor i xs h2
    exact ⟨p, us, by rw [wipe_get h1]; exact g1, g2⟩
  · obtain ⟨h1, h2⟩ := notOwn_wipe e1
    obtain ⟨h3, h4⟩ := notOwn_wipe e2
    rw [wipe_get h1] at e3
    rw [wipe_get h3] at e4
    exact h.apart i j p h2 h4 e3 e4
theorem Off.wipe {b : Addr} (h : Off r σ b) (vs : List Nat) : Off (wipeE vs r) (L2.wipe σ vs) b := fun j n e => by
  obtain ⟨h1, h2⟩ := notOwn_wipe n
  rw [wipe_get h1] at e
  exact h j h2 e
theorem backE_len : ∀ (vs : List Nat) (r0 r : En), (backE vs r0 r).length = r.length
  | [], _, _ => rfl
  | v :: vs, r0, r => by
    show ((backE vs r0 r).set v _).length = _
    rw [List.length_set, backE_len vs r0 r]
theorem backE_get {r0 : En} : ∀ {vs : List Nat} {r : En} {j : Nat} {s : Sl}, (backE vs r0 r)[j]? = some s → (j ∈ vs ∧ s = r0.getD j .un) ∨ (j ∉ vs ∧ r[j]? = some s)
  | [], _, _, _, h => .inr ⟨by simp, h⟩
  | v :: vs, r, j, s, h => by
    have h : ((backE vs r0 r).set v (r0.getD v .un))[j]? = some s := h
    by_cases hj : v = j
    · subst hj
      by_cases hl : v < (backE vs r0 r).length
      · rw [List.getElem?_set_self hl] at h
        exact .inl ⟨List.mem_cons_self, (Option.some.inj h).symm⟩
      · rw [List.getElem?_eq_none (by simpa using hl)] at h
        cases h
    · rw [List.getElem?_set_ne hj] at h
      rcases backE_get h with ⟨h1, h2⟩ | ⟨h1, h2⟩
      · exact .inl ⟨List.mem_cons_of_mem _ h1, h2⟩
      · exact .inr ⟨by simp only [List.mem_cons, not_or]; exact ⟨fun e => hj e.symm, h1⟩, h2⟩
theorem Rep.back {r0 : En} (h0 : Rep T K B r0 σ F1 H1) (s : Same F1 F) (vs : List Nat) (no : (vs.all fun i => notOwn r0[i]?) = true) (h : Rep T K B r (L2.wipe σ vs) F H) : Rep T K B (backE vs r0 r) σ F H := by
  have dat0 : ∀ (j : Nat) s, j ∈ vs → s = r0.getD j .un → (∃ d, s = .dat d ∧ r0[j]? = some (.dat d)) ∨ s = .un := fun j s hj e => by
    have n := List.all_eq_true.mp no j hj
    rw [List.getD_eq_getElem?_getD] at e
    cases ej : r0[j]? with
    | none =>
      rw [ej] at e
      exact .inr e
    | some u =>
      rw [ej] at e
      have e : s = u := e
      rw [ej] at n
      cases u with
      | dat d => exact .inl ⟨d, e, rfl⟩
      | un => exact .inr e
      | own xs => cases n
      | bor xs => cases n
  have nO : ∀ j : Nat, notOwn (backE vs r0 r)[j]? = false → j ∉ vs ∧ notOwn r[j]? = false := fun j n => by
    cases ej : (backE vs r0 r)[j]? with
    | none =>
      rw [ej] at n
      cases n
    | some s =>
      rcases backE_get ej with ⟨h1, h2⟩ | ⟨h1, h2⟩
      · rcases dat0 j s h1 h2 with ⟨d, e, _⟩ | e <;> rw [ej, e] at n <;> cases n
      · exact ⟨h1, by rw [h2, ← ej]; exact n⟩
  refine ⟨h.ext, ?_, fun i d e => ?_, fun i xs e => ?_, fun i xs e => ?_, fun i j p e1 e2 e3 e4 => ?_⟩
  · rw [backE_len, h.len, wipe_length]
  · rcases backE_get e with ⟨h1, h2⟩ | ⟨h1, h2⟩
    · rcases dat0 i _ h1 h2 with ⟨d', e', g⟩ | e'
      · cases e'
        obtain ⟨v, g1, g2⟩ := h0.dat i d g
        exact ⟨v, g1, g2.mono s⟩
      · cases e'
    · obtain ⟨v, g1, g2⟩ := h.dat i d h2
      exact ⟨v, by rw [← wipe_get h1]; exact g1, g2⟩
  · rcases backE_get e with ⟨h1, h2⟩ | ⟨h1, h2⟩
    · rcases dat0 i _ h1 h2 with ⟨d', e', g⟩ | e' <;> cases e'
    · obtain ⟨p, us, g1, g2⟩ := h.own i xs h2
      exact ⟨p, us, by rw [← wipe_get h1]; exact g1, g2⟩
  · rcases backE_get e with ⟨h1, h2⟩ | ⟨h1, h2⟩
    · rcases dat0 i _ h1 h2 with ⟨d', e', g⟩ | e' <;> cases e'
    · obtain ⟨p, us, g1, g2⟩ := h.bor i xs h2
      exact ⟨p, us, by rw [← wipe_get h1]; exact g1, g2⟩
  · obtain ⟨h1, h2⟩ := nO i e1
    obtain ⟨h3, h4⟩ := nO j e2
    exact h.apart i j p h2 h4 (by rw [wipe_get h1]; exact e3) (by rw [wipe_get h3]; exact e4)
end
/-! ### one reading for all contexts -/
section
variable (T : List (Addr × Str)) (cv : Nat → Value)
def tD (K : PySem.W.Frag) (E : XK) (f : M D) : TE := fun σ H Q => ∃ B r F, Rep T K B r σ F H ∧ PoE T cv K B σ F E Q (f r)
def tDT (K : PySem.W.Frag) (E : XK) (f : M Bool) : TT := fun σ H Q => ∃ B r F, Rep T K B r σ F H ∧ PoT T cv K B σ F E Q (f r)
def gD (K : PySem.W.Frag) (g : Tg) (vs : List Nat) : TG := fun v σ H Q => ∃ B r F d r', Rep T K B r σ F H ∧ Dv K F v d ∧ g d r = some r' ∧ ∀ σ', Rep T K B r' σ' F H → wipe σ' vs = wipe σ vs → Q σ' H
def DTs (X : Cx) (E : XK) (ifs : List Expr) (f : M Bool) : Prop := ∃ t, PTs X ifs t ∧ ∀ B r σ F H Q, Rep T X.K B r σ F H → PoT T cv X.K B σ F E Q (f r) → t σ H Q
end
section
variable {T : List (Addr × Str)} {cv : Nat → Value} {X : Cx} {E : XK} {e a b c tg iter : Expr} {es : List Expr} {pos : Pos} {fa fb fc : M D} {fs fi : M (List D)} {tA : M Bool}
theorem DE.pe (h : DE T cv X E e fa) : PE X e (tD T cv X.K E fa) := by
  obtain ⟨t, p, q⟩ := h
  exact ⟨fun pins s σ H Q I ⟨B, r, F, rep, h⟩ => p.run pins s σ H Q I (q B r σ F H Q rep h)⟩
theorem DTs.pts {ifs : List Expr} (h : DTs T cv X E ifs tA) : PTs X ifs (tDT T cv X.K E tA) := by
  obtain ⟨t, p, q⟩ := h
  exact ⟨fun pins s σ H Q I ⟨B, r, F, rep, h⟩ => p.run pins s σ H Q I (q B r σ F H Q rep h)⟩
theorem DG.pg {g : Tg} {vs : List Nat} (h : DG T X tg g vs) : PG X tg (gD T X.K g vs) := by
  obtain ⟨t, p, q⟩ := h
  exact ⟨fun pins s σ H v u Q I rv ⟨B, r, F, d, r', rep, dv, eg, k⟩ => p.run pins s σ H v u Q I rv (q B r σ F H v d r' Q rep dv eg k)⟩
theorem dts_nil : DTs T cv X E [] tY := ⟨_, pts_nil, fun B r σ F H Q rep h => h F H true (Same.refl _) rep rfl⟩
theorem dts_one (h : DT T cv X E c tA) : DTs T cv X E [c] tA := by
  obtain ⟨t, p, q⟩ := h
  exact ⟨t, pts_one p, q⟩
theorem lcGo_ok {g : Tg} {tt : M Bool} {te : M D} {vs : List Nat} {x : D} {xs acc ys : List D} {r r2 : En} (h : lcGo g tt te vs (x :: xs) acc r = .ok ys r2) :
    ∃ r1 b r3, g x r = some r1 ∧ tt r1 = .ok b r3 ∧ ((b = true ∧ ∃ y r4, te r3 = .ok y r4 ∧ lcGo g tt te vs xs (acc ++ [y]) (wipeE vs r4) = .ok ys r2) ∨ (b = false ∧ lcGo g tt te vs xs acc (wipeE vs r3) = .ok ys r2)) := by
  unfold lcGo at h
  cases e1 : g x r with
  | none =>
    rw [e1] at h
    cases h
  | some r1 =>
    rw [e1] at h
    dsimp only at h
    cases e2 : tt r1 with
    | ok b r3 =>
      rw [e2] at h
      refine ⟨r1, b, r3, rfl, e2, ?_⟩
      cases b with
      | false => exact .inr ⟨rfl, h⟩
      | true =>
        have h : (te r3).andThen (fun y r3 => lcGo g tt te vs xs (acc ++ [y]) (wipeE vs r3)) = .ok ys r2 := h
        cases e3 : te r3 with
        | ok y r4 =>
          rw [e3] at h
          exact .inl ⟨rfl, y, r4, rfl, h⟩
        | exc c r4 =>
          rw [e3] at h
          cases h
        | bad =>
          rw [e3] at h
          cases h
    | exc c r3 =>
      rw [e2] at h
      cases h
    | bad =>
      rw [e2] at h
      cases h
theorem lc_read {K : PySem.W.Frag} {B : Bs} {σ : St} {F1 H1 : Hp} {r1 : En} {J : It} {g : Tg} {tt : M Bool} {te : M D} {vs : List Nat} {xs ys : List D} {r2 : En} {Q : VK} (rep1 : Rep T K B r1 σ F1 H1) (wk : Wk K F1 J xs) (no : (vs.all fun i => notOwn r1[i]?) = true) (hlen : xs.length ≤ lim)
    (run : lcGo g tt te vs xs [] (wipeE vs r1) = .ok ys r2) (q : ∀ F' H' v, Same F1 F' → Rep T K B (backE vs r1 r2) σ F' H' → Dv K F' v (.lst ys) → Q v H') (Dl : Addr) (hD : H1 Dl = none) :
    ∃ W : Nat → Nat → Hp → Prop, (∃ m, W 0 m (upd H1 Dl (.lst []))) ∧ ∀ i m H, W i m H →
      (J.stop i H ∧ Q (.ref Dl) H) ∨ (J.go i H ∧ ∃ Nx : Hp → Prop, (∀ H', Nx H' → ∃ m', m' < m ∧ W (i + 1) m' H') ∧ ∀ x H', J.yld i H x H' → gD T K g vs x (wipe σ vs) H' fun σ2 H2 => wipe σ2 vs = wipe σ vs ∧ tDT T cv K E0 tt σ2 H2 fun b H3 =>
        if b = true then tD T cv K E0 te σ2 H3 fun y H4 => ∃ acc, H4 Dl = some (.lst acc) ∧ acc.length < sizeLine ∧ Nx (upd H4 Dl (.lst (acc ++ [y]))) else Nx H3) := by
  have fr := rep1.ext.fresh_of hD
  have off1 : Off r1 σ Dl := fun j n e => by
    obtain ⟨p, us, g1, g2, _⟩ := rep1.addr n
    rw [e] at g1
    cases g1
    rw [hD] at g2
    cases g2
  refine ⟨fun i m H => m = xs.length - i ∧ i ≤ xs.length ∧ ∃ r F acc accV, Same F1 F ∧ Rep T K B r (wipe σ vs) F H ∧ H Dl = some (.lst accV) ∧ F Dl = none ∧ Dvs K F accV acc ∧ acc.length ≤ i ∧ Off r (wipe σ vs) Dl ∧ lcGo g tt te vs (xs.drop i) acc r = .ok ys r2,
    ⟨xs.length, rfl, Nat.zero_le _, wipeE vs r1, F1, [], [], Same.refl _, (rep1.wipe vs).fresh' hD, upd_same, rep1.free hD, .nil, Nat.zero_le _, off1.wipe vs, run⟩, ?_⟩
  rintro i m H ⟨rfl, hi, r, F, acc, accV, sF, rep, hDl, fDl, dacc, hacc, off, runi⟩
  obtain ⟨stop, go⟩ := wk i H (sF.trans rep.ext.sub)
  by_cases hlt : i < xs.length
  · obtain ⟨hgo, hy⟩ := go xs[i] (List.getElem?_eq_getElem hlt)
    rw [List.drop_eq_getElem_cons hlt] at runi
    obtain ⟨ra, bb, rb, ea, eb, rest⟩ := lcGo_ok runi
    refine .inr ⟨hgo, fun H' => ∃ r F acc accV, Same F1 F ∧ Rep T K B r (wipe σ vs) F H' ∧ H' Dl = some (.lst accV) ∧ F Dl = none ∧ Dvs K F accV acc ∧ acc.length ≤ i + 1 ∧ Off r (wipe σ vs) Dl ∧ lcGo g tt te vs (xs.drop (i + 1)) acc r = .ok ys r2, fun H' w => ⟨xs.length - (i + 1), by omega, rfl, hlt, w⟩, fun x H3 yl => ?_⟩
    -- the item, as a datum at F3
    have item : ∃ F3, Same F F3 ∧ Rep T K B r (wipe σ vs) F3 H3 ∧ Dv K F3 x xs[i] ∧ H3 Dl = some (.lst accV) ∧ F3 Dl = none := by
      rcases hy x H3 yl with ⟨e, dv⟩ | ⟨p0, us, ds, hn, e, ex, ed, dvs⟩
      · subst e
        exact ⟨F, Same.refl _, rep, dv.mono sF, hDl, fDl⟩
      · subst e
        have n0 := rep.free hn
        have hne : Dl ≠ p0 := ne_of_none hDl hn
        refine ⟨upd F p0 (.tup us), same_upd n0, rep.fresh hn not_tup, ?_, by rw [upd_ne hne]; exact hDl, by rw [upd_ne hne]; exact fDl⟩
        rw [ex, ed]
        exact .tup upd_same (dvs.mono (sF.trans (same_upd n0)))
    obtain ⟨F3, sF3, rep3, dv, hDl3, fDl3⟩ := item
    obtain ⟨B', repB, backB, keepB⟩ := rep3.rebase
    have keep := keepB Dl _ hDl3 not_lst off
    refine ⟨B', r, F3, xs[i], ra, repB, dv, ea, fun σ2 rep4 hw => ⟨hw.trans (wipe_twice σ vs), ?_⟩⟩
    have hw := hw.trans (wipe_twice σ vs)
    refine ⟨B', ra, F3, rep4, ?_⟩
    rw [eb]
    intro F5 H5 k s5 rep5 hk
    subst hk
    rcases rest with ⟨rfl, y, rc, ec, run2⟩ | ⟨rfl, run2⟩
    · refine iteT ⟨B', rb, F5, rep5, ?_⟩
      rw [ec]
      intro F6 H6 v s6 rep6 dv6
      obtain ⟨repN, sN⟩ := backB _ _ _ _ rep6
      obtain ⟨k1, k2, k3⟩ := keep _ _ _ _ rep6
      refine ⟨accV, k1, by rw [dacc.len]; exact Nat.lt_of_le_of_lt hacc (Nat.lt_of_lt_of_le hlt (Nat.le_trans hlen (by decide))), ?_⟩
      have repW := repN.wipe vs
      rw [hw] at repW
      have offW := k3.wipe vs
      rw [hw] at offW
      refine ⟨wipeE vs rc, F6, acc ++ [y], accV ++ [v], sF.trans (sF3.trans sN), repW.side k1 (k2 fDl3) fr offW, upd_same, k2 fDl3, (dacc.mono (sF3.trans sN)).append (.cons dv6 .nil), ?_, offW, run2⟩
      rw [List.length_append]
      exact Nat.add_le_add_right hacc 1
    · refine iteF ?_
      obtain ⟨repN, sN⟩ := backB _ _ _ _ rep5
      obtain ⟨k1, k2, k3⟩ := keep _ _ _ _ rep5
      have repW := repN.wipe vs
      rw [hw] at repW
      have offW := k3.wipe vs
      rw [hw] at offW
      exact ⟨wipeE vs rb, F5, acc, accV, sF.trans (sF3.trans sN), repW, k1, k2 fDl3, dacc.mono (sF3.trans sN), Nat.le_succ_of_le hacc, offW, run2⟩
  · have e : i = xs.length := by omega
    subst e
    rw [List.drop_length] at runi
    unfold lcGo at runi
    cases runi
    have z := rep.side_frz hDl fDl fr off
    have sZ : Same F (upd F Dl (.lst accV)) := same_upd fDl
    exact .inl ⟨stop rfl, q _ _ _ (sF.trans sZ) (Rep.back rep1 (sF.trans sZ) vs no z) (.lst upd_same (dacc.mono sZ))⟩
theorem de_lc {elt : Expr} {ifs : List Expr} {scope : Scope} {own : List (Str × Nat)} {g : Tg} {tt : M Bool} {te : M D} (hc : X.calm = true) (hN : X.N.Nodup) (hi : DI T cv X E tg iter fi) (ok : BlkOk X.N X.env.scope scope own)
    (hg : ∀ (s : Shared) (H : Hp) (C : Addr) (cl : List (Str × Addr)) (fp : List Addr), DG T (X.blk s H scope (compEnvC scope cl C X.env) fp) tg g (own.map (·.2)))
    (ht : ∀ (s : Shared) (H : Hp) (C : Addr) (cl : List (Str × Addr)) (fp : List Addr), DTs T cv (X.blk s H scope (compEnvC scope cl C X.env) fp) E0 ifs tt)
    (he : ∀ (s : Shared) (H : Hp) (C : Addr) (cl : List (Str × Addr)) (fp : List Addr), DE T cv (X.blk s H scope (compEnvC scope cl C X.env) fp) E0 elt te) (hs : ∀ x, foldedSetIterable iter X.env x = pure x := by intro _; rfl) :
    DE T cv X E (.ListComp elt [⟨tg, iter, ifs, 0⟩] scope pos) (eLc fi g tt te (own.map (·.2))) := by
  obtain ⟨wi, pi, qi⟩ := hi
  refine ⟨_, pe_lc (g := gD T X.K g (own.map (·.2))) (tt := tDT T cv X.K E0 tt) (te := tD T cv X.K E0 te) hc hN pi ok (fun s H C cl fp => (hg s H C cl fp).pg) (fun s H C cl fp => (ht s H C cl fp).pts) (fun s H C cl fp => (he s H C cl fp).pe) hs, fun B r σ F H Q rep h => ?_⟩
  refine qi B r σ F H _ rep (Po.bind h fun xs r1 F1 H1 J er s1 rep1 wk h1 => ?_)
  intro Dl hD
  split at h1
  · rename_i hcond
    cases run : lcGo g tt te (own.map (·.2)) xs [] (wipeE (own.map (·.2)) r1) with
    | ok ys r2 =>
      rw [run] at h1
      exact lc_read rep1 wk hcond.1 hcond.2 run h1 Dl hD
    | exc c r2 =>
      rw [run] at h1
      exact h1.elim
    | bad =>
      rw [run] at h1
      exact h1.elim
  · exact h1.elim
/-- y = [..] -/
theorem ds_setLc {i : Nat} {y : Str} {py : Pos} {elt : Expr} {ifs : List Expr} {scope : Scope} {own : List (Str × Nat)} {spos : Pos} {g : Tg} {tt : M Bool} {te : M D} (hc : X.calm = true) (hN : X.N.Nodup) (hy : X.N[i]? = some y) (hyl : X.env.scope.names.lookup y = some .local)
    (hsw : swapsWith (.ListComp elt [⟨tg, iter, ifs, 0⟩] scope pos) (some (.Name y py)) spos.line X.env = pure true) (hi : DI T cv X E tg iter fi) (ok : BlkOk X.N X.env.scope scope own)
    (hg : ∀ (s : Shared) (H : Hp) (C : Addr) (cl : List (Str × Addr)) (fp : List Addr), DG T (X.blk s H scope (compEnvC scope cl C X.env) fp) tg g (own.map (·.2)))
    (ht : ∀ (s : Shared) (H : Hp) (C : Addr) (cl : List (Str × Addr)) (fp : List Addr), DTs T cv (X.blk s H scope (compEnvC scope cl C X.env) fp) E0 ifs tt)
    (he : ∀ (s : Shared) (H : Hp) (C : Addr) (cl : List (Str × Addr)) (fp : List Addr), DE T cv (X.blk s H scope (compEnvC scope cl C X.env) fp) E0 elt te) (hs : ∀ x, foldedSetIterable iter X.env x = pure x := by intro _; rfl) :
    DS T cv X E (.Assign [.Name y py] (.ListComp elt [⟨tg, iter, ifs, 0⟩] scope pos) spos) (sSet i (eLc fi g tt te (own.map (·.2)))) := by
  obtain ⟨wi, pi, qi⟩ := hi
  refine ⟨_, ps_setLc (g := gD T X.K g (own.map (·.2))) (tt := tDT T cv X.K E0 tt) (te := tD T cv X.K E0 te) hc hN hy hyl hsw pi ok (fun s H C cl fp => (hg s H C cl fp).pg) (fun s H C cl fp => (ht s H C cl fp).pts) (fun s H C cl fp => (he s H C cl fp).pe) hs, fun B r σ F H D rep h => ?_⟩
  have h' : PoE T cv X.K B σ F E (fun v H1 => D.nx (σ.set i (some v)) H1) (eLc fi g tt te (own.map (·.2)) r) := PoS.bind h fun d r1 F1 H1 v er s1 rep1 dv h1 => h1 _ F1 H1 (Same.refl _) (rep1.set_dat i dv)
  refine qi B r σ F H _ rep (Po.bind h' fun xs r1 F1 H1 J er s1 rep1 wk h1 => ?_)
  intro Dl hD
  split at h1
  · rename_i hcond
    cases run : lcGo g tt te (own.map (·.2)) xs [] (wipeE (own.map (·.2)) r1) with
    | ok ys r2 =>
      rw [run] at h1
      exact lc_read rep1 wk hcond.1 hcond.2 run h1 Dl hD
    | exc c r2 =>
      rw [run] at h1
      exact h1.elim
    | bad =>
      rw [run] at h1
      exact h1.elim
  · exact h1.elim
end
end FB
/-! The operations by their rules. -/
namespace FB
open PySem PySem.Spec L2
theorem OpR.or {X : Cx} {f : Value → Value → Sem Value} {r r' : R2} (h : OpR X f r) (h' : OpR X f r') : OpR X f (fun x y H Q => r x y H Q ∨ r' x y H Q) := fun pins s σ H x y v u Q I a b q =>
  q.elim (h pins s σ H x y v u Q I a b) (h' pins s σ H x y v u Q I a b)
section
variable {T : List (Addr × Str)} {cv : Nat → Value} {K : PySem.W.Frag} {B : Bs} {r : En} {σ : St} {F F1 H H1 F' H' : Hp} {E : XK}
theorem lim_le {n : Nat} (h : n ≤ lim) : n ≤ sizeLine := Nat.le_trans h (by decide)
theorem strOk_app {x y : Str} (hx : PyData.strOk x = true) (hy : PyData.strOk y = true) : PyData.strOk (x ++ y) = true := by
  show (x.cps ++ y.cps).all (· < 0x110000) = true
  rw [Array.all_append]
  exact Bool.and_eq_true_iff.mpr ⟨hx, hy⟩
theorem app_dv {x y : Str} (hx : PyData.strOk x = true) (hy : PyData.strOk y = true) (hl : x.cps.toList.length + y.cps.toList.length ≤ lim) : Dv K F (.str (x ++ y)) (.str (x.cps.toList ++ y.cps.toList)) := by
  have e : x.cps.toList ++ y.cps.toList = (x ++ y).cps.toList := by
    show _ = (x.cps ++ y.cps).toList
    rw [Array.toList_append]
  rw [e]
  refine .str _ ?_ (strOk_app hx hy)
  show (x.cps ++ y.cps).size ≤ lim
  rw [Array.size_append]
  simpa using hl
/-! ### + -/
abbrev rAddA (K : PySem.W.Frag) : R2 := fun x y H Q => (rI0 (fun i j => V.int (i + j))) x y H Q ∨ (∃ i j, x = .str i ∧ y = .str j ∧ i.length + j.length ≤ sizeLine ∧ Q (.str (i ++ j)) H) ∨ rCat x y H Q ∨ rCatA K x y H Q
theorem o_add {X : Cx} : OpR X (binaryOp .Add) (rAddA X.K) := OpR.or op_add (OpR.or op_add_str (OpR.or op_cat op_catA))
theorem Rep.new (h : Rep T K B r σ F H) {p : Addr} {vs : List V} {ds : List D} (hp : H p = none) (d : Dvs K F vs ds) (Q : VK) (q : ∀ F' H' v, Same F F' → Rep T K B r σ F' H' → Dv K F' v (.lst ds) → Q v H') : Q (.ref p) (upd H p (.lst vs)) :=
  q _ _ _ (same_upd (h.free hp)) (h.fresh hp not_lst) (.lst upd_same (d.mono (same_upd (h.free hp))))
theorem Rep.newT (h : Rep T K B r σ F H) {p : Addr} {vs : List V} {ds : List D} (hp : H p = none) (d : Dvs K F vs ds) (Q : VK) (q : ∀ F' H' v, Same F F' → Rep T K B r σ F' H' → Dv K F' v (.tup ds) → Q v H') : Q (.ref p) (upd H p (.tup vs)) :=
  q _ _ _ (same_upd (h.free hp)) (h.fresh hp not_tup) (.tup upd_same (d.mono (same_upd (h.free hp))))
theorem p_add : Op2 T K (rAddA K) opAdd := fun B r σ F H x y d e z Q rep dx dy ez q => by
  cases dx with
  | int i =>
    cases dy with
    | int j =>
      cases ez
      exact .inl ⟨i, j, rfl, rfl, q F H _ (Same.refl _) rep (.int _)⟩
    | _ => cases ez
  | str x h1 h2 =>
    cases dy with
    | str y h3 h4 =>
      simp only [opAdd] at ez
      split at ez
      · rename_i hl
        cases ez
        refine .inr (.inl ⟨x, y, rfl, rfl, ?_, q F H _ (Same.refl _) rep (app_dv h2 h4 hl)⟩)
        show x.cps.size + y.cps.size ≤ sizeLine
        exact lim_le (by simpa using hl)
      · cases ez
    | _ => cases ez
  | lst hF dvs =>
    cases dy with
    | lst hG dws =>
      simp only [opAdd] at ez
      split at ez
      · rename_i hl
        cases ez
        refine .inr (.inr (.inl ⟨_, _, _, _, rfl, rfl, rep.ext.sub _ _ hF, rep.ext.sub _ _ hG, by rw [dvs.len, dws.len]; exact lim_le hl, fun p hp => rep.new hp (dvs.append dws) Q q⟩))
      · cases ez
    | _ => cases ez
  | tup hF dvs =>
    cases dy with
    | tup hG dws =>
      simp only [opAdd] at ez
      split at ez
      · rename_i hl
        cases ez
        refine .inr (.inr (.inr ⟨_, _, _, _, rfl, rfl, SqT.of (rep.ext.sub _ _ hF), SqT.of (rep.ext.sub _ _ hG), by rw [dvs.len, dws.len]; exact lim_le hl, fun e => ?_, fun _ e => ?_, fun _ _ p hp => rep.newT hp (dvs.append dws) Q q⟩))
        · subst e
          cases dvs
          exact q F H _ (Same.refl _) rep (.tup hG dws)
        · subst e
          cases dws
          rw [List.append_nil] at q
          exact q F H _ (Same.refl _) rep (.tup hF dvs)
      · cases ez
    | _ => cases ez
  | _ => cases ez
theorem p_sub : Op2 T K (rI0 fun i j => V.int (i - j)) opSub := fun B r σ F H x y d e z Q rep dx dy ez q => by
  cases dx with
  | int i =>
    cases dy with
    | int j =>
      cases ez
      exact ⟨i, j, rfl, rfl, q F H _ (Same.refl _) rep (.int _)⟩
    | _ => cases ez
  | _ => cases ez
theorem p_fdiv : Op2 T K (rI CDivW fun i j => V.int (i / j)) opFdiv := fun B r σ F H x y d e z Q rep dx dy ez q => by
  cases dx with
  | int i =>
    cases dy with
    | int j =>
      simp only [opFdiv] at ez
      split at ez
      · rename_i hm
        cases ez
        exact ⟨i, j, rfl, rfl, hm, q F H _ (Same.refl _) rep (.int _)⟩
      · cases ez
    | _ => cases ez
  | _ => cases ez
theorem p_mod : Op2 T K (rI (fun _ j => 0 < j) fun i j => V.int (i % j)) opMod := fun B r σ F H x y d e z Q rep dx dy ez q => by
  cases dx with
  | int i =>
    cases dy with
    | int j =>
      simp only [opMod] at ez
      split at ez
      · rename_i hm
        cases ez
        exact ⟨i, j, rfl, rfl, hm, q F H _ (Same.refl _) rep (.int _)⟩
      · cases ez
    | _ => cases ez
  | _ => cases ez
theorem p_pow : Op2 T K (rI CPow fun i j => V.int (i ^ j.toNat)) opPow := fun B r σ F H x y d e z Q rep dx dy ez q => by
  cases dx with
  | int i =>
    cases dy with
    | int j =>
      simp only [opPow] at ez
      split at ez
      · rename_i hm
        cases ez
        refine ⟨i, j, rfl, rfl, ⟨hm.1, hm.2.1, ?_⟩, q F H _ (Same.refl _) rep (.int _)⟩
        have e : (2 : Nat) ^ 64 = 18446744073709551616 := by decide
        rw [e]
        exact hm.2.2
      · cases ez
    | _ => cases ez
  | _ => cases ez
/-! ### comparisons -/
theorem p_le : Op2 T K (rI0 fun i j => V.bl (decide (i ≤ j))) opLe := fun B r σ F H x y d e z Q rep dx dy ez q => by
  cases dx with
  | int i =>
    cases dy with
    | int j =>
      cases ez
      exact ⟨i, j, rfl, rfl, q F H _ (Same.refl _) rep (.bl _)⟩
    | _ => cases ez
  | _ => cases ez
theorem p_ge : Op2 T K (rI0 fun i j => V.bl (decide (j ≤ i))) opGe := fun B r σ F H x y d e z Q rep dx dy ez q => by
  cases dx with
  | int i =>
    cases dy with
    | int j =>
      cases ez
      exact ⟨i, j, rfl, rfl, q F H _ (Same.refl _) rep (.bl _)⟩
    | _ => cases ez
  | _ => cases ez
theorem py_fz_nil (ns : List Int) : PyData.eqv (D.fz ns).py (D.lst []).py = ns.isEmpty := by
  cases ns with
  | nil => simp [D.py, D.py.go, PyData.eqv, PyData.eqvAll]
  | cons n r => simp [D.py, D.py.go, PyData.eqv, PyData.eqvAll]
theorem depth_ints : ∀ ns : List Int, PyData.depthAll (ns.map PyData.int) = 0
  | [] => by simp [PyData.depthAll]
  | n :: r => by simp [PyData.depthAll, PyData.depth, depth_ints r]
theorem eq_data {d e : D} {b : Bool} {x y : V} (dx : Dv K F x d) (dy : Dv K F y e) (h : pyEq d e = some b) : SeqAt.shaped d.py = true ∧ SeqAt.shaped e.py = true ∧ PyData.eqv d.py e.py = b := by
  have gen : (if d.dep ≤ 60 ∧ e.dep ≤ 60 then some (D.eqv d e) else none) = some b → SeqAt.shaped d.py = true ∧ SeqAt.shaped e.py = true ∧ PyData.eqv d.py e.py = b := fun h => by
    split at h
    · rename_i hd
      exact ⟨dx.shaped hd.1, dy.shaped hd.2, by rw [eqv_py d e hd.1 hd.2]; exact Option.some.inj h⟩
    · cases h
  unfold pyEq at h
  split at h
  · rename_i ns
    refine ⟨?_, dy.shaped (by simp [D.dep, D.depL]), by rw [py_fz_nil]; exact Option.some.inj h⟩
    unfold SeqAt.shaped
    rw [dx.lay, Bool.true_and]
    have e : (D.fz ns).py.depth = 1 := by
      simp [D.py, PyData.depth, depth_ints]
    rw [e]
    decide
  · exact gen h
theorem eq_deps {d e : D} {b : Bool} (h : pyEq d e = some b) : d.dep ≤ 160 ∧ e.dep ≤ 160 := by
  unfold pyEq at h
  split at h
  · exact ⟨by simp [D.dep], by simp [D.dep, D.depL]⟩
  · split at h
    · rename_i hd
      omega
    · cases h
theorem in_deps {d e : D} {b : Bool} (h : inB d e = some b) : d.dep ≤ 160 ∧ e.dep ≤ 160 := by
  unfold inB at h
  split at h
  · split at h
    · rename_i hd
      omega
    · cases h
  · split at h
    · rename_i hd
      omega
    · cases h
  · cases h
theorem p_eq : Op2 T K (rEqD K) opEq := fun B r σ F H x y d e z Q rep dx dy ez q => by
  unfold opEq at ez
  cases eb : pyEq d e with
  | none =>
    rw [eb] at ez
    cases ez
  | some b =>
    rw [eb] at ez
    cases ez
    obtain ⟨h1, h2, h3⟩ := eq_data dx dy eb
    refine ⟨d.py, e.py, dx.dp rep.ext.sub (eq_deps eb).1, dy.dp rep.ext.sub (eq_deps eb).2, h1, h2, ?_⟩
    rw [h3]
    exact q F H _ (Same.refl _) rep (.bl _)
theorem p_ne : Op2 T K (rNeD K) opNe := fun B r σ F H x y d e z Q rep dx dy ez q => by
  unfold opNe at ez
  cases eb : pyEq d e with
  | none =>
    rw [eb] at ez
    cases ez
  | some b =>
    rw [eb] at ez
    cases ez
    obtain ⟨h1, h2, h3⟩ := eq_data dx dy eb
    refine ⟨d.py, e.py, dx.dp rep.ext.sub (eq_deps eb).1, dy.dp rep.ext.sub (eq_deps eb).2, h1, h2, ?_⟩
    rw [h3]
    exact q F H _ (Same.refl _) rep (.bl _)
/-- c in s, c one sign -/
theorem p_inS : Op2 T K (fun x y H Q => ∃ (c : Nat) (z : Str), x = .str ⟨#[c]⟩ ∧ y = .str z ∧ Q (.bl (decide (c ∈ z.cps.toList))) H) opInS := fun B r σ F H x y d e z Q rep dx dy ez q => by
  cases dx with
  | str x h1 h2 =>
    cases dy with
    | str y h3 h4 =>
      unfold opInS at ez
      split at ez
      · rename_i c s e1 e2
        cases ez
        have e1 := D.str.inj e1
        have e2 := D.str.inj e2
        have ex : x = ⟨#[c]⟩ := by
          obtain ⟨a⟩ := x
          have e3 : a.toList = [c] := e1
          have : a = #[c] := by
            rw [← Array.toArray_toList (xs := a), e3]
          rw [this]
        refine ⟨c, y, by rw [ex], rfl, ?_⟩
        rw [e2]
        exact q F H _ (Same.refl _) rep (.bl _)
      · cases ez
    | _ => unfold opInS at ez; split at ez <;> simp_all
  | _ => unfold opInS at ez; split at ez <;> simp_all
/-! ### in -/
abbrev rInA (K : PySem.W.Frag) : R2 := fun x y H Q => rInD K x y H Q ∨ ∃ d ds, Dp K H x d ∧ Dp K H y (.tuple ds) ∧ SeqAt.shaped d = true ∧ SeqAt.shaped (.tuple ds) = true ∧ Q (.bl (ds.any fun z => PyData.eqv z d)) H
theorem op_inDT {X : Cx} (hu : X.A.units + 65 < cLine) : OpR X (compareOp .In) (fun x y H Q => ∃ d ds, Dp X.K H x d ∧ Dp X.K H y (.tuple ds) ∧ SeqAt.shaped d = true ∧ SeqAt.shaped (.tuple ds) = true ∧ Q (.bl (ds.any fun z => PyData.eqv z d)) H) := by
  intro pins s σ H x y v u Q I rx ry h
  obtain ⟨d, ds, hd, he, sd, se, q⟩ := h
  obtain ⟨as, r1⟩ := Dp.reads I d x v hd rx
  obtain ⟨bs, r2⟩ := Dp.reads I (.tuple ds) y u he ry
  exact SeqAt.in_tuple_reads r2 r1 (SeqAt.canLay_of_shaped se) (SeqAt.canLay_of_shaped sd) (by have := SeqAt.depth_of_shaped sd; have := Nat.min_le_right (PyData.depthAll ds) d.depth; omega) ⟨.bl _, H, I, rfl, q⟩
theorem units65 {A : Around} {k : Nat} (h : Room k A) : A.units + 65 < cLine := by
  have := h.un
  omega
theorem o_in {X : Cx} {k : Nat} (hr : Room k X.A) : OpR X (compareOp .In) (rInA X.K) := OpR.or (op_inD (units65 hr)) (op_inDT (units65 hr))
theorem any_py (d : D) (hd : d.dep ≤ 60) : ∀ (xs : List D), D.depL xs ≤ 60 → ((D.py.go xs).any fun z => PyData.eqv z d.py) = xs.any fun z => D.eqv z d
  | [], _ => rfl
  | x :: xs, h => by
    have h1 : max (D.dep x) (D.depL xs) ≤ 60 := by simpa only [D.depL] using h
    show (PyData.eqv x.py d.py || (D.py.go xs).any fun z => PyData.eqv z d.py) = (D.eqv x d || xs.any fun z => D.eqv z d)
    rw [eqv_py x d (by omega) hd, any_py d hd xs (by omega)]
theorem in_data {d e : D} {b : Bool} {x y : V} (dx : Dv K F x d) (dy : Dv K F y e) (h : inB d e = some b) : SeqAt.shaped d.py = true ∧ SeqAt.shaped e.py = true ∧ ((∃ xs, e = .lst xs ∧ ((D.py.go xs).any fun z => PyData.eqv z d.py) = b) ∨ ∃ xs, e = .tup xs ∧ ((D.py.go xs).any fun z => PyData.eqv z d.py) = b) := by
  cases e with
  | lst xs =>
    simp only [inB] at h
    split at h
    · rename_i hd
      have h2 : D.depL xs ≤ 60 := by
        have := hd.2
        simp only [D.dep] at this
        omega
      exact ⟨dx.shaped hd.1, dy.shaped hd.2, .inl ⟨xs, rfl, by rw [any_py d hd.1 xs h2]; exact Option.some.inj h⟩⟩
    · cases h
  | tup xs =>
    simp only [inB] at h
    split at h
    · rename_i hd
      have h2 : D.depL xs ≤ 60 := by
        have := hd.2
        simp only [D.dep] at this
        omega
      exact ⟨dx.shaped hd.1, dy.shaped hd.2, .inr ⟨xs, rfl, by rw [any_py d hd.1 xs h2]; exact Option.some.inj h⟩⟩
    · cases h
  | _ => cases h
theorem p_in : Op2 T K (rInA K) opIn := fun B r σ F H x y d e z Q rep dx dy ez q => by
  unfold opIn at ez
  cases eb : inB d e with
  | none =>
    rw [eb] at ez
    cases ez
  | some b =>
    rw [eb] at ez
    cases ez
    obtain ⟨h1, h2, h3⟩ := in_data dx dy eb
    have q1 := q F H _ (Same.refl _) rep (.bl b)
    rcases h3 with ⟨xs, rfl, h3⟩ | ⟨xs, rfl, h3⟩
    · refine .inl ⟨d.py, _, dx.dp rep.ext.sub (in_deps eb).1, dy.dp rep.ext.sub (in_deps eb).2, h1, h2, ?_⟩
      rw [h3]
      exact q1
    · refine .inr ⟨d.py, _, dx.dp rep.ext.sub (in_deps eb).1, dy.dp rep.ext.sub (in_deps eb).2, h1, h2, ?_⟩
      rw [h3]
      exact q1
/-! ### places -/
theorem at_list {α : Type} {xs : List α} {j : Int} {z : α} (e : atD xs j = some z) : atI xs j = some z := by
  unfold atD at e
  unfold atI ixN
  split at e
  · rename_i h0
    have hlt := (List.getElem?_eq_some_iff.mp e).1
    rw [if_pos h0, if_pos (by omega)]
    exact e
  · rename_i h0
    split at e
    · rename_i h1
      rw [if_neg h0, if_pos (by omega)]
      exact e
    · cases e
theorem at_mem {α : Type} {xs : List α} {j : Int} {z : α} (e : atD xs j = some z) : ∃ i : Nat, xs[i]? = some z := by
  unfold atD at e
  split at e
  · exact ⟨_, e⟩
  · split at e
    · exact ⟨_, e⟩
    · cases e
theorem at_map {α β : Type} {f : α → β} {xs : List α} {j : Int} {z : α} (e : atD xs j = some z) : atI (xs.map f) j = some (f z) := by
  have h := at_list e
  unfold atI at h ⊢
  rw [List.length_map]
  cases hi : ixN xs.length j with
  | none =>
    rw [hi] at h
    cases h
  | some i =>
    rw [hi] at h
    show (xs.map f)[i]? = some (f z)
    rw [List.getElem?_map]
    have h : xs[i]? = some z := h
    rw [h]
    rfl
theorem p_ix : Op2 T K (rIx K) opIx := fun B r σ F H x y d e z Q rep dx dy ez q => by
  cases dy with
  | int i =>
    cases dx with
    | lst hF dvs =>
      obtain ⟨v, h1, h2⟩ := at_get dvs ez
      exact .inl ⟨_, _, i, v, rfl, rfl, SqL.of (rep.ext.sub _ _ hF), h1, q F H _ (Same.refl _) rep h2⟩
    | tup hF dvs =>
      obtain ⟨v, h1, h2⟩ := at_get dvs ez
      exact .inr (.inl ⟨_, _, i, v, rfl, rfl, SqT.of (rep.ext.sub _ _ hF), h1, q F H _ (Same.refl _) rep h2⟩)
    | str x h1 h2 =>
      simp only [opIx] at ez
      cases ec : atD x.cps.toList i with
      | none =>
        rw [ec] at ez
        cases ez
      | some c =>
        rw [ec] at ez
        cases ez
        obtain ⟨j, hj⟩ := at_mem ec
        exact .inr (.inr ⟨x, i, c, rfl, rfl, lim_le h1, at_list ec, q F H _ (Same.refl _) rep (sign_dv h2 (i := j) (by simpa using hj))⟩)
    | fz hF =>
      rename_i ns
      simp only [opIx] at ez
      cases ec : atD ns i with
      | none =>
        rw [ec] at ez
        cases ez
      | some c =>
        rw [ec] at ez
        cases ez
        exact .inl ⟨_, _, i, .int c, rfl, rfl, rep.ext.sub.seq hF, at_map ec, q F H _ (Same.refl _) rep (.int c)⟩
    | _ => cases ez
  | _ => cases dx <;> cases ez
theorem p_isN : Op2 T K (fun x y H Q => y = .non ∧ Q (.bl (decide (x = .non))) H) opIsN2 := fun B r σ F H x y d e z Q rep dx dy ez q => by
  cases dy with
  | non =>
    refine ⟨rfl, ?_⟩
    cases dx <;> cases ez <;> exact q F H _ (Same.refl _) rep (.bl _)
  | _ => cases ez
theorem p_notN : Op2 T K (fun x y H Q => y = .non ∧ Q (.bl (!decide (x = .non))) H) opNotN2 := fun B r σ F H x y d e z Q rep dx dy ez q => by
  cases dy with
  | non =>
    refine ⟨rfl, ?_⟩
    cases dx <;> cases ez <;> exact q F H _ (Same.refl _) rep (.bl _)
  | _ => cases ez
/-! ### built-ins -/
theorem CallR.or' {X : Cx} {f : Value} {r r' : List V → Hp → VK → Prop} (h : CallR X f r) (h' : CallR X f r') : CallR X f (fun x H Q => r x H Q ∨ r' x H Q) := fun pins s σ H x u Q I a q =>
  q.elim (h pins s σ H x u Q I a) (h' pins s σ H x u Q I a)
abbrev rLenA (K : PySem.W.Frag) : List V → Hp → VK → Prop := fun x H Q => (∃ p ys, x = [.ref p] ∧ (SqL K H p ys ∨ SqT K H p ys) ∧ Q (.int ys.length) H) ∨ ∃ z, x = [.str z] ∧ z.length ≤ sizeLine ∧ Q (.int z.length) H
theorem o_len {X : Cx} : CallR X (.builtin "len") (rLenA X.K) := CallR.or' call_len_seq call_len_str
theorem p_len : OpN T K (rLenA K) bLen := fun B r σ F H xs ds z Q rep dx ez q => by
  cases dx with
  | nil => cases ez
  | cons d1 dr =>
    cases dr with
    | cons _ _ => cases d1 <;> cases ez
    | nil =>
      cases d1 with
      | str x h1 h2 =>
        cases ez
        refine .inr ⟨x, rfl, lim_le h1, ?_⟩
        have e : ((x.cps.toList.length : Nat) : Int) = (x.length : Int) := by simp [Str.length]
        rw [e] at q
        exact q F H _ (Same.refl _) rep (.int _)
      | lst hF dvs =>
        cases ez
        refine .inl ⟨_, _, rfl, .inl (SqL.of (rep.ext.sub _ _ hF)), ?_⟩
        rw [dvs.len]
        exact q F H _ (Same.refl _) rep (.int _)
      | tup hF dvs =>
        cases ez
        refine .inl ⟨_, _, rfl, .inr (SqT.of (rep.ext.sub _ _ hF)), ?_⟩
        rw [dvs.len]
        exact q F H _ (Same.refl _) rep (.int _)
      | fz hF =>
        cases ez
        refine .inl ⟨_, _, rfl, .inl (rep.ext.sub.seq hF), ?_⟩
        rw [List.length_map]
        exact q F H _ (Same.refl _) rep (.int _)
      | _ => cases ez
theorem p_tuple : OpN T K (fun xs H Q => ∃ p ys, xs = [.ref p] ∧ ((SqL K H p ys ∧ ∀ l, H l = none → Q (.ref l) (upd H l (.tup ys))) ∨ (SqT K H p ys ∧ Q (.ref p) H))) bTuple := fun B r σ F H xs ds z Q rep dx ez q => by
  cases dx with
  | nil => cases ez
  | cons d1 dr =>
    cases dr with
    | cons _ _ => cases d1 <;> cases ez
    | nil =>
      cases d1 with
      | lst hF dvs =>
        cases ez
        exact ⟨_, _, rfl, .inl ⟨SqL.of (rep.ext.sub _ _ hF), fun p hp => rep.newT hp dvs Q q⟩⟩
      | tup hF dvs =>
        cases ez
        exact ⟨_, _, rfl, .inr ⟨SqT.of (rep.ext.sub _ _ hF), q F H _ (Same.refl _) rep (.tup hF dvs)⟩⟩
      | _ => cases ez
theorem p_max : OpN T K (fun xs H Q => ∃ i j, xs = [.int i, .int j] ∧ Q (.int (if j > i then j else i)) H) bMax := fun B r σ F H xs ds z Q rep dx ez q => by
  unfold bMax at ez
  split at ez
  · cases ez
    cases dx with
    | cons d1 dr =>
      cases dr with
      | cons d2 dr =>
        cases dr
        cases d1
        cases d2
        exact ⟨_, _, rfl, q F H _ (Same.refl _) rep (.int _)⟩
  · cases ez
theorem p_min : OpN T K (fun xs H Q => ∃ i j, xs = [.int i, .int j] ∧ Q (.int (if j < i then j else i)) H) bMin := fun B r σ F H xs ds z Q rep dx ez q => by
  unfold bMin at ez
  split at ez
  · cases ez
    cases dx with
    | cons d1 dr =>
      cases dr with
      | cons d2 dr =>
        cases dr
        cases d1
        cases d2
        exact ⟨_, _, rfl, q F H _ (Same.refl _) rep (.int _)⟩
  · cases ez
theorem p_abs : OpN T K (fun xs H Q => ∃ i, xs = [.int i] ∧ Q (.int (if i < 0 then -i else i)) H) bAbs := fun B r σ F H xs ds z Q rep dx ez q => by
  unfold bAbs at ez
  split at ez
  · cases ez
    cases dx with
    | cons d1 dr =>
      cases dr
      cases d1
      exact ⟨_, rfl, q F H _ (Same.refl _) rep (.int _)⟩
  · cases ez
theorem p_int : OpN T K (fun xs H Q => (∃ i, xs = [.int i] ∧ Q (.int i) H) ∨ ∃ k, xs = [.bl k] ∧ Q (.int (if k then 1 else 0)) H) bInt := fun B r σ F H xs ds z Q rep dx ez q => by
  unfold bInt at ez
  split at ez
  · cases ez
    cases dx with
    | cons d1 dr =>
      cases dr
      cases d1
      exact .inl ⟨_, rfl, q F H _ (Same.refl _) rep (.int _)⟩
  · cases ez
    cases dx with
    | cons d1 dr =>
      cases dr
      cases d1
      exact .inr ⟨_, rfl, q F H _ (Same.refl _) rep (.int _)⟩
  · cases ez
theorem Dvs.bls : ∀ {vs : List V} {ds : List D} {bs : List Bool}, Dvs K F vs ds → FB.bls ds = some bs → vs = bs.map V.bl
  | _, _, _, .nil, h => by
    cases h
    rfl
  | _, _, bs, .cons d t, h => by
    cases d with
    | bl b =>
      unfold FB.bls at h
      cases e : FB.bls _ with
      | none =>
        rw [e] at h
        cases h
      | some cs =>
        rw [e] at h
        cases h
        rw [List.map_cons, ← t.bls e]
    | _ => cases h
theorem Dvs.intsD : ∀ {vs : List V} {ds : List D} {bs : List Int}, Dvs K F vs ds → FB.intsD ds = some bs → vs = bs.map V.int
  | _, _, _, .nil, h => by
    cases h
    rfl
  | _, _, bs, .cons d t, h => by
    cases d with
    | int b =>
      unfold FB.intsD at h
      cases e : FB.intsD _ with
      | none =>
        rw [e] at h
        cases h
      | some cs =>
        rw [e] at h
        cases h
        rw [List.map_cons, ← t.intsD e]
    | _ => cases h
theorem p_all : OpN T K (rAll K) bAll := fun B r σ F H xs ds z Q rep dx ez q => by
  unfold bAll at ez
  split at ez
  · rename_i ys
    cases dx with
    | cons d1 dr =>
      cases dr
      cases d1 with
      | lst hF dvs =>
        cases e : FB.bls ys with
        | none =>
          rw [e] at ez
          cases ez
        | some bs =>
          rw [e] at ez
          cases ez
          exact ⟨_, bs, rfl, by rw [← dvs.bls e]; exact SqL.of (rep.ext.sub _ _ hF), q F H _ (Same.refl _) rep (.bl _)⟩
  · cases ez
theorem p_sum : OpN T K (rSum K) bSum := fun B r σ F H xs ds z Q rep dx ez q => by
  unfold bSum at ez
  split at ez
  · rename_i ys
    cases dx with
    | cons d1 dr =>
      cases dr
      cases d1 with
      | lst hF dvs =>
        cases e : FB.intsD ys with
        | none =>
          rw [e] at ez
          cases ez
        | some bs =>
          rw [e] at ez
          cases ez
          exact ⟨_, bs, rfl, by rw [← dvs.intsD e]; exact SqL.of (rep.ext.sub _ _ hF), q F H _ (Same.refl _) rep (.int _)⟩
  · cases ez
/-! ### isinstance -/
def tyN : Nat → String
  | 0 => "int"
  | 1 => "bool"
  | 2 => "str"
  | _ => "tuple"
theorem kit4 : ∀ t, t < 4 → kitB "NoneType" (tyN t) = some false ∧ kitB "bool" (tyN t) = some (t == 0 || t == 1) ∧ kitB "int" (tyN t) = some (t == 0) ∧ kitB "str" (tyN t) = some (t == 2) ∧ kitB "tuple" (tyN t) = some (t == 3) ∧ kitB "list" (tyN t) = some false
  | 0, _ => by decide +kernel
  | 1, _ => by decide +kernel
  | 2, _ => by decide +kernel
  | 3, _ => by decide +kernel
  | _ + 4, h => absurd h (by omega)
end
section
variable {T : List (Addr × Str)} {cv : Nat → Value} {X : Cx} {E : XK} {e a b c tg iter : Expr} {es : List Expr} {pos : Pos} {fa fb fc : M D} {fs fi : M (List D)} {tA : M Bool}
theorem de_isi {t : Nat} {x : Str} {p px : Pos} (ht : t < 4) (hg : Gl X "isinstance") (hm : X.mg "isinstance" = none) (hgx : Gl X x) (hmx : X.mg x = none) (hx : bootBuiltins x = some (.type (tyN t))) (ha : DE T cv X E a fa) (hn : x ≠ "__name__" := by decide) (hd : (x == ("__debug__" : Str)) = false := by decide)
    (he : starEach [a, .Name x px] X.env = (false, eval a X.env) :: starEach [.Name x px] X.env := by rfl) (he2 : starEach [.Name x px] X.env = (false, eval (.Name x px) X.env) :: starEach [] X.env := by rfl) (hpl : (backTo pos (starEach [.Name x px] X.env)).any (·.1) = false := by rfl) :
    DE T cv X E (.Call (.Name "isinstance" p) [a, .Name x px] [] pos) (e1 (isTy t) fa) := by
  obtain ⟨ta, pa, qa⟩ := ha
  refine ⟨_, pe_callB call_isi hg hm PyProof.Rows.boot_isinstance (pa_cons pa (pa_cons (pe_bltn (v := .ty (tyN t)) hgx hmx hx rfl hn hd) pa_nil he2) he) (by decide) (by decide) he hpl, fun B r σ F H Q rep h => ?_⟩
  refine qa B r σ F H _ rep (Po.bind h fun d r1 F1 H1 v er s1 rep1 dv h1 => ?_)
  obtain ⟨z, ez, q⟩ := h1.lift
  obtain ⟨k0, k1, k2, k3, k4, k5⟩ := kit4 t ht
  have fin : ∀ (ty : Value) (bb : Bool), TyX X.K H1 v ty → PySem.W.kitOne X.K ty (.type (tyN t)) = some bb → z = .bl bb → rIsi X.K [v, .ty (tyN t)] H1 Q := fun ty bb h1 h2 h3 => by
    subst h3
    exact ⟨v, .ty (tyN t), ty, .type (tyN t), bb, rfl, .ty _, h1, h2, q F1 H1 _ (Same.refl _) rep1 (.bl bb)⟩
  show rIsi X.K [v, .ty (tyN t)] H1 Q
  cases dv with
  | non => exact fin _ _ (.base .non) (kit_ty k0) (Option.some.inj ez).symm
  | bl b => exact fin _ _ (.base (.bl b)) (kit_ty k1) (Option.some.inj ez).symm
  | int i => exact fin _ _ (.base (.int i)) (kit_ty k2) (Option.some.inj ez).symm
  | str x _ _ => exact fin _ _ (.base (.str x)) (kit_ty k3) (Option.some.inj ez).symm
  | tup hF _ => exact fin _ _ (.base (.tup (rep1.ext.sub _ _ hF))) (kit_ty k4) (Option.some.inj ez).symm
  | lst hF _ => exact fin _ _ (.base (.lst (rep1.ext.sub _ _ hF))) (kit_ty k5) (Option.some.inj ez).symm
  | fz _ => cases ez
  | opq _ => cases ez
  | dk _ _ => cases ez
  | dt _ _ => cases ez
/-! ### sep.join -/
theorem Dvs.strsD {K : PySem.W.Frag} {F : Hp} : ∀ {vs : List V} {ds : List D} {ss : List (List Nat)}, Dvs K F vs ds → FB.strsD ds = some ss → ∃ xs : List Str, vs = xs.map V.str ∧ xs.map (fun x => x.cps.toList) = ss ∧ ∀ x ∈ xs, PyData.strOk x = true
  | _, _, _, .nil, h => by
    cases h
    exact ⟨[], rfl, rfl, fun _ z => nomatch z⟩
  | _, _, bs, .cons d t, h => by
    cases d with
    | str x h1 h2 =>
      unfold FB.strsD at h
      cases e : FB.strsD _ with
      | none =>
        rw [e] at h
        cases h
      | some cs =>
        rw [e] at h
        cases h
        obtain ⟨xs, g1, g2, g3⟩ := t.strsD e
        exact ⟨x :: xs, by rw [List.map_cons, ← g1], by rw [List.map_cons, g2], fun y hy => by
          rcases List.mem_cons.mp hy with z | z
          · rw [z]
            exact h2
          · exact g3 y z⟩
    | _ => cases h
theorem join_toList (a : Str) : ∀ ys : List Str, (Str.join a ys).cps.toList = joinL a.cps.toList (ys.map fun x => x.cps.toList)
  | [] => rfl
  | [x] => rfl
  | x :: y :: r => by
    show ((x.cps ++ a.cps) ++ (Str.join a (y :: r)).cps).toList = x.cps.toList ++ a.cps.toList ++ joinL a.cps.toList ((y :: r).map fun x => x.cps.toList)
    rw [Array.toList_append, Array.toList_append, join_toList a (y :: r)]
theorem join_ok {a : Str} (ha : PyData.strOk a = true) : ∀ ys : List Str, (∀ x ∈ ys, PyData.strOk x = true) → PyData.strOk (Str.join a ys) = true
  | [], _ => by
    show (#[] : Array Nat).all (· < 0x110000) = true
    simp
  | [x], h => h x List.mem_cons_self
  | x :: y :: r, h => strOk_app (strOk_app (h x List.mem_cons_self) ha) (join_ok ha (y :: r) fun z hz => h z (List.mem_cons_of_mem _ hz))
theorem join_size (a : List Nat) : ∀ ys : List (List Nat), (ys.map List.length).sum ≤ (joinL a ys).length
  | [] => Nat.le_refl _
  | [x] => by simp [joinL]
  | x :: y :: r => by
    have ih := join_size a (y :: r)
    show x.length + ((y :: r).map List.length).sum ≤ (x ++ a ++ joinL a (y :: r)).length
    rw [List.length_append, List.length_append]
    omega
theorem de_join {x : Str} {s : List Nat} {j : Nat} {cp apos : Pos} (hx : Tx x s) (ha : DE T cv X E a fa) (hs10 : s.length ≤ 10 := by decide)
    (h : ∀ {ta : TE}, PE X a ta → PE X (.Call (.Attribute (.Constant (.str x) j cp) "join" apos) [a] [] pos) (tM1 (fun x xs H Q => ∃ a p, ∃ ys : List Str, x = .str a ∧ xs = [.ref p] ∧ (SqL X.K H p (ys.map V.str) ∨ SqT X.K H p (ys.map V.str)) ∧ (ys.map (·.length)).sum + ys.length * a.length ≤ 16777216 ∧ Q (.str (Txt.join a ys)) H) (tC (.str x)) ta) := by intro ta p; exact pe_join pe_str p) :
    DE T cv X E (.Call (.Attribute (.Constant (.str x) j cp) "join" apos) [a] [] pos) (e1 (mJoin (.str s)) fa) := by
  obtain ⟨ta, pa, qa⟩ := ha
  refine ⟨_, h pa, fun B r σ F H Q rep h => ?_⟩
  refine ⟨⟨x, rfl⟩, ?_⟩
  refine qa B r σ F H _ rep (Po.bind h fun d r1 F1 H1 v er s1 rep1 dv h1 => ?_)
  obtain ⟨z, ez, q⟩ := h1.lift
  have fin : ∀ (ds : List D) (vs : List V) (p : Addr), v = .ref p → Dvs X.K F1 vs ds → (SqL X.K H1 p vs ∨ SqT X.K H1 p vs) → (FB.strsD ds).bind (fun ss => if (joinL s ss).length ≤ lim ∧ ss.length ≤ lim ∧ s.length ≤ 10 then some (D.str (joinL s ss)) else none) = some z →
      ∃ a p, ∃ ys : List Str, V.str x = .str a ∧ [v] = [V.ref p] ∧ (SqL X.K H1 p (ys.map V.str) ∨ SqT X.K H1 p (ys.map V.str)) ∧ (ys.map (·.length)).sum + ys.length * a.length ≤ 16777216 ∧ Q (.str (Txt.join a ys)) H1 := fun ds vs p ev dvs hq ez => by
    cases e : FB.strsD ds with
    | none =>
      rw [e] at ez
      cases ez
    | some ss =>
      rw [e] at ez
      have ez : (if (joinL s ss).length ≤ lim ∧ ss.length ≤ lim ∧ s.length ≤ 10 then some (D.str (joinL s ss)) else none) = some z := ez
      split at ez
      · rename_i hl
        cases ez
        obtain ⟨ys, g1, g2, g3⟩ := dvs.strsD e
        subst g1
        have ej : (Txt.join x ys).cps.toList = joinL s ss := by
          rw [TL.join_eq, join_toList, g2, hx.eq]
        refine ⟨x, p, ys, rfl, by rw [ev], hq, ?_, q F1 H1 _ (Same.refl _) rep1 ?_⟩
        · have e1 := join_size s ss
          have e2 : (ys.map (·.length)).sum = (ss.map List.length).sum := by
            rw [← g2, List.map_map]
            congr 1
          have e3 : ys.length = ss.length := by rw [← g2, List.length_map]
          have e4 : x.length = s.length := by
            rw [← hx.eq]
            simp [Str.length]
          rw [e2, e3, e4]
          have l1 : (joinL s ss).length ≤ 100000 := hl.1
          have l2 : ss.length ≤ 100000 := hl.2.1
          have l3 : ss.length * s.length ≤ 100000 * 10 := Nat.mul_le_mul l2 hl.2.2
          omega
        · rw [← ej]
          refine .str _ ?_ ?_
          · have : (Txt.join x ys).cps.toList.length ≤ lim := by
              rw [ej]
              exact hl.1
            simpa using this
          · rw [TL.join_eq]
            exact join_ok hx.ok ys g3
      · cases ez
  cases dv with
  | lst hF dvs => exact fin _ _ _ rfl dvs (.inl (SqL.of (rep1.ext.sub _ _ hF))) ez
  | tup hF dvs => exact fin _ _ _ rfl dvs (.inr (SqT.of (rep1.ext.sub _ _ hF))) ez
  | _ => cases ez
end
end FB
/-! enumerate of a tuple, of a text, of a list. -/
namespace FB
open PySem PySem.Spec L2
theorem enum_new1 {v : Value} {o : Obj} {Hs : Heap → Prop} (Bg : Begins v o Hs) :
    Meets (Builtin.«enumerate.__new__» ⟨[.type "enumerate", v], []⟩) (fun _ R s => Hs s.heap ∧
      R (.ok (.ret (.ref (s.heap.push o).objs.size))) { s with heap := (s.heap.push o).push { cls := .type "enumerate", data := .fields #[.none, .bool false, .ref s.heap.objs.size, rawInt 0, .none, .none] } }) :=
  .of_wp fun prog w A R s hyp => by
    obtain ⟨hp0, g0, d0, tk0, os0⟩ := s
    obtain ⟨hs, fin⟩ := hyp
    have isSub := sub_enumerate
    have go : ∀ {A' : Around} {E' : Value → Shared → Prop} {Q' : Value → Shared → Prop}, Q' (.ref hp0.objs.size) ⟨hp0.push o, g0, d0, tk0, os0⟩ → wpAny (model prog w) A' (pyIter v) Q' E' ⟨hp0, g0, d0, tk0, os0⟩ :=
      fun z => Bg.iter prog w _ _ ⟨hp0, g0, d0, tk0, os0⟩ _ hs z
    wp_walk using go
    refine wpAny_stack_any fun stk => wpAny_pure ?_
    split
    · rename_i cc _ _ _ _ _
      cases (cc == Value.type "enumerate")
      · wp_walk using go
        exact ⟨_, rfl, fin⟩
      · wp_walk using go
        exact ⟨_, rfl, fin⟩
    · wp_walk using go
      exact ⟨_, rfl, fin⟩
theorem call_enum1 {prog : Program} {w : World} {A : Around} {E : Value → Shared → Prop} {s : Shared} {v : Value} {o : Obj} {Hs : Heap → Prop} {Q : Value → Shared → Prop} (Bg : Begins v o Hs) (hs : Hs s.heap)
    (k : ∀ h', IsEnum h' (s.heap.objs.size + 1) s.heap.objs.size 0 .none → h'.get? s.heap.objs.size = some o → (∀ b u, s.heap.get? b = some u → h'.get? b = some u) → Q (.ref (s.heap.objs.size + 1)) { s with heap := h' }) :
    wpAny (model prog w) A (call (.type "enumerate") [v]) Q E s := by
  refine callType_new F.called_enumerate (by decide) (F.typeCall_enumerate_1 _) (F.newCall_enumerate_1 _) (fun obj => F.args_object_init_2 obj _) F.entry_enumerate_new (enum_new1 Bg) ⟨hs, ?_⟩
  have sz : (s.heap.push o).objs.size = s.heap.objs.size + 1 := Heap.size_push ..
  show _ ∧ _
  rw [sz]
  have isE : IsEnum ((s.heap.push o).push { cls := .type "enumerate", data := .fields #[.none, .bool false, .ref s.heap.objs.size, rawInt 0, .none, .none] }) (s.heap.objs.size + 1) s.heap.objs.size 0 .none := by
    have z := Heap.get?_push_size (s.heap.push o) (o := { cls := .type "enumerate", data := .fields #[.none, .bool false, .ref s.heap.objs.size, rawInt 0, .none, .none] }) rfl
    rw [sz] at z
    exact z
  exact ⟨⟨_, isE, rfl⟩, k _ isE (Heap.get?_push_of_some _ (Heap.get?_push_size _ Bg.free)) fun b u x => Heap.get?_push_of_some _ (Heap.get?_push_of_some _ x)⟩
/-- a source of items: sg tells which value comes at turn i, over the abstract heap; st the source's iterator -/
structure Src (P : Program) (w : World) (K : PySem.W.Frag) (it : Addr) (sg sy : Nat → Hp → V → Prop) (se : Nat → Hp → Prop) (st : Nat → Heap → Prop) : Prop where
  obj : ∀ i h, st i h → ∃ o, h.get? it = some o ∧ ∀ v, o.data ≠ .cell v
  keep : ∀ i h h', st i h → (∀ o, h.get? it = some o → h'.get? it = some o) → st i h'
  draw : ∀ (X : Cx), X.prog = P → X.w = w → X.K = K → X.calm = true → ∀ (i : Nat) (pins : List (Addr × Obj)) (s : Shared) (σ : St) (H : Hp), Inv X pins σ H s → H it = none → st i s.heap →
    ((∃ v, sg i H v) → ∃ (fp : List Addr) (n : Nat) (Pd : Nat → Value → Prop) (S : Nat → Heap → Prop), Draws P w X.A.in1 it fp n Pd S ∧ S i s.heap ∧ i < n ∧ (∀ b ∈ fp, b = it ∨ ∃ o, s.heap.get? b = some o ∧ ((∃ u, H b = some u) ∨ ∃ u, K.lookup b = some u)) ∧ (∀ u, Pd i u → ∃ v, RelV v u ∧ sy i H v) ∧ ∀ h, S (i + 1) h → st (i + 1) h) ∧
    (se i H → ∃ (fp : List Addr) (n : Nat) (Pd : Nat → Value → Prop) (S : Nat → Heap → Prop), Draws P w X.A.in1 it fp n Pd S ∧ S n s.heap)
def Ien (sg sy : Nat → Hp → V → Prop) (se : Nat → Hp → Prop) : It :=
  ⟨fun i H => ∃ v, sg i H v, fun i H y H' => ∃ p v, y = .ref p ∧ H p = none ∧ H' = upd H p (.tup [.int (i : Nat), v]) ∧ sy i H v, se⟩
theorem turn_en {P : Program} {w : World} {K : PySem.W.Frag} {elts : List Expr} {kk : Nat} {tp : Pos} {it en : Addr} {sg sy : Nat → Hp → V → Prop} {se : Nat → Hp → Prop} {st : Nat → Heap → Prop} (S : Src P w K it sg sy se st) (nei : en ≠ it) :
    Turn P w K (.Tuple elts kk tp) (Ien sg sy se) [en, it] en (fun i h => (∃ old, IsEnum h en it ((i : Nat) : Int) old) ∧ st i h) where
  mem := List.mem_cons_self
  obj := fun i h z b hb => by
    obtain ⟨⟨old, isE⟩, hst⟩ := z
    rcases List.mem_cons.mp hb with e | e
    · rw [e]
      exact ⟨_, isE, fun v q => nomatch q⟩
    · rw [List.mem_singleton.mp e]
      exact S.obj i h hst
  keep := fun i h h' z k => by
    obtain ⟨⟨old, isE⟩, hst⟩ := z
    exact ⟨⟨old, k en List.mem_cons_self _ isE⟩, S.keep i h h' hst fun o q => k it (List.mem_cons_of_mem _ List.mem_cons_self) o q⟩
  item := by
    intro X hP hw hK hc i pins s σ H E I hf z hg
    obtain ⟨⟨old, isE⟩, hst⟩ := z
    have fi := hf it (List.mem_cons_of_mem _ List.mem_cons_self)
    have fe := hf en List.mem_cons_self
    obtain ⟨fp, n, Pd, Sd, Dr, s0, lt, out, vals, nxt⟩ := (S.draw X hP hw hK hc i pins s σ H I fi.1 hst).1 hg
    have enf : en ∉ fp := fun q => by
      rcases out en q with e | ⟨o, ho, ⟨u, hu⟩ | ⟨u, hu⟩⟩
      · exact nei e
      · rw [fe.1] at hu
        cases hu
      · have q1 := I.kIn en u (by rw [hK]; exact hu)
        -- what the module wrote is older than the def's entry: it is no iterator of ours
        have b1 := I.ok.mod.kin en u (by rw [hK]; exact hu)
        rcases fe.2.2.2.1 with q2 | q2
        · exact I.ok.noex en u b1 q2
        · exact absurd (Nat.lt_of_lt_of_le (Heap.lt_size b1) (Nat.le_trans I.ok.bsz q2)) (Nat.lt_irrefl _)
    subst hP hw hK
    have ltE : en < s.heap.objs.size := Heap.lt_size isE
    have ltI : it < s.heap.objs.size := by
      obtain ⟨o, q, _⟩ := S.obj i _ hst
      exact Heap.lt_size q
    refine wpAny_pyNext_enum_itemD Dr isE s0 lt nei enf fun x h' tk px isO s1 isT _ kp => ?_
    obtain ⟨v, rv, sv⟩ := vals x px
    refine ⟨_, rfl, wpAny_letOwnedTupleGo_enum (s := { s with heap := h', toks := tk + 1 }) isO fun h2 isE2 sb => ?_⟩
    have isT2 : h2.get? s.heap.objs.size = some { cls := .type "tuple", data := .seq #[.int i tk, x] } := (sb.2 _ (Nat.ne_of_gt ltE)).trans isT
    have new : ObjOk X.prog X.w (upd H s.heap.objs.size (.tup [.int (i : Nat), v])) h2 s.heap.objs.size (.tup [.int (i : Nat), v]) := by
      refine ⟨by show 2 ≤ sizeLine; decide, [.int i tk, x], .cons ⟨_, rfl⟩ (.cons rv .nil), ?_⟩
      exact ⟨_, isT2, rfl, _, rfl⟩
    have I1 : Inv X pins σ (upd H s.heap.objs.size (.tup [.int (i : Nat), v])) { s with heap := h2, toks := tk + 1 } := by
      refine I.turnedNew (ch := [en, it]) (fun b ob hb q => ?_) hf (Nat.le_refl _) new
      have n1 : b ≠ en := fun q => hb (by rw [q]; exact List.mem_cons_self)
      have n2 : b ≠ it := fun q => hb (by rw [q]; exact List.mem_cons_of_mem _ List.mem_cons_self)
      exact (sb.2 b n1).trans (kp b ob n1 n2 q)
    refine ⟨.ref s.heap.objs.size, _, I1, rfl, ⟨_, v, rfl, I.hok.fresh (Nat.le_refl _), rfl, sv⟩, ⟨⟨x, ?_⟩, ?_⟩, fun b hb => ?_⟩
    · have e1 : ((i + 1 : Nat) : Int) = (i : Int) + 1 := by omega
      rw [e1]
      exact isE2
    · exact S.keep _ _ _ (nxt _ s1) fun o q => (sb.2 it (Ne.symm nei)).trans q
    · have lb : b < s.heap.objs.size := by
        rcases List.mem_cons.mp hb with e | e
        · rw [e]
          exact ltE
        · rw [List.mem_singleton.mp e]
          exact ltI
      rw [upd_ne (Nat.ne_of_lt lb)]
      exact (hf b hb).1
  done := by
    intro X hP hw hK hc i pins s σ H E I hf z hg
    obtain ⟨⟨old, isE⟩, hst⟩ := z
    obtain ⟨f0, f1, f2, f3, f4, f5⟩ := hf it (List.mem_cons_of_mem _ List.mem_cons_self)
    obtain ⟨fp, n, Pd, Sd, Dr, s0⟩ := (S.draw X hP hw hK hc i pins s σ H I f0 hst).2 hg
    subst hP hw hK
    exact wpAny_pyNext_enum_endD Dr isE s0 fun h' eb => ⟨rfl, I.turned (t' := s.toks) (fun b o hb q => eb b o hb q) f0 f1 f3 f4 f5⟩
  self := fun A i s Q E z h => let ⟨⟨_, isE⟩, _⟩ := z; wpAny_pyIter_enum isE h
/-! ### a tuple, a text -/
theorem src_tup {P : Program} {w : World} {K : PySem.W.Frag} (a it : Addr) : Src P w K it (fun i H v => (∃ xs, SqT K H a xs ∧ xs[i]? = some v)) (fun i H v => ∀ xs, SqT K H a xs → xs[i]? = some v) (fun i H => ∃ xs, SqT K H a xs ∧ xs.length = i) (fun i h => h.IsTupleIter it a i) where
  obj := fun i h z => by
    obtain ⟨o, e, c, d⟩ := z
    exact ⟨o, e, fun v q => by rw [d] at q; cases q⟩
  keep := fun i h h' z k => z.at fun o e => k o e
  draw := fun X hP hw hK hc i pins s σ H I hn z => by
    have hne : ∀ {xs : List V}, SqT X.K H a xs → a ≠ it := fun {xs} hq e => by
      subst e
      rcases hq with (hq | ⟨o, hq⟩) | ⟨o, its, n, hk, hcl, hdt, _⟩
      · rw [hn] at hq
        cases hq
      · rw [hn] at hq
        cases hq
      · obtain ⟨o2, e2, c2, d2⟩ := z
        rw [I.kIn a o hk] at e2
        cases e2
        rw [hdt] at d2
        cases d2
    subst hP hw hK
    refine ⟨fun ⟨v, xs, hq, hx⟩ => ?_, fun ⟨xs, hq, hx⟩ => ?_⟩
    · obtain ⟨its, rv, isT, hz⟩ := I.tuple hq
      obtain ⟨u, hu, ru⟩ := rv.get hx
      have isT : s.heap.IsTuple a its.toArray := isT
      refine ⟨_, _, _, _, Draws.tuple (prog := X.prog) (w := X.w) (A := X.A.in1) (show X.A.in1.handled = none from I.ok.hd hc) it a (hne hq) its.toArray, ⟨z, isT⟩, ?_, fun b hb => ?_, fun u' hu' => ?_, fun h hh => hh.1⟩
      · have := (List.getElem?_eq_some_iff.mp hu).1
        simpa using this
      · rcases List.mem_cons.mp hb with e | e
        · exact .inl e
        · rw [List.mem_singleton.mp e]
          obtain ⟨o, ho, _⟩ := isT
          refine .inr ⟨o, ho, ?_⟩
          rcases hq with (hq | ⟨o, hq⟩) | ⟨o, its, n, hk, _⟩
          · exact .inl ⟨_, hq⟩
          · exact .inl ⟨_, hq⟩
          · exact .inr ⟨_, hk⟩
      · have e : its[i]? = some u' := by simpa using hu'
        rw [hu] at e
        cases e
        exact ⟨v, ru, fun ys hy => by rw [I.tuple_inj hy hq]; exact hx⟩
    · obtain ⟨its, rv, isT, hz⟩ := I.tuple hq
      have hl := rv.length
      refine ⟨_, _, _, _, Draws.tuple (prog := X.prog) (w := X.w) (A := X.A.in1) (show X.A.in1.handled = none from I.ok.hd hc) it a (hne hq) its.toArray, ?_, isT⟩
      have e : its.toArray.size = i := by
        simp
        omega
      rw [e]
      exact z
theorem src_str {P : Program} {w : World} {K : PySem.W.Frag} (x : Str) (t : Tok) (it : Addr) : Src P w K it (fun i H v => ∃ c, x.cps[i]? = some c ∧ v = .str ⟨#[c]⟩) (fun i H v => ∃ c, x.cps[i]? = some c ∧ v = .str ⟨#[c]⟩) (fun i H => x.cps.size = i) (fun i h => h.IsStrIter it (strIterType x) x t i) where
  obj := fun i h z => by
    obtain ⟨o, e, c, d⟩ := z
    exact ⟨o, e, fun v q => by rw [d] at q; cases q⟩
  keep := fun i h h' z k => by
    obtain ⟨o, e, q⟩ := z
    exact ⟨o, k o e, q⟩
  draw := fun X hP hw hK hc i pins s σ H I hn z => by
    subst hP hw hK
    refine ⟨fun ⟨v, c, hcx, _⟩ => ?_, fun hx => ?_⟩
    · refine ⟨_, _, _, _, Draws.text (prog := X.prog) (w := X.w) (A := X.A.in1) (show X.A.in1.handled = none from I.ok.hd hc) it x t, z, (Array.getElem?_eq_some_iff.mp hcx).1, fun b hb => .inl (List.mem_singleton.mp hb), fun u' ⟨c', tk, h1, h2⟩ => ?_, fun h hh => hh⟩
      exact ⟨.str ⟨#[c']⟩, ⟨tk, h2⟩, c', h1, rfl⟩
    · refine ⟨_, _, _, _, Draws.text (prog := X.prog) (w := X.w) (A := X.A.in1) (show X.A.in1.handled = none from I.ok.hd hc) it x t, ?_⟩
      rw [hx]
      exact z
section
variable {T : List (Addr × Str)} {cv : Nat → Value} {X : Cx} {E : XK} {e a b c : Expr} {es elts : List Expr} {pos tp p : Pos} {kk : Nat} {fa fb fc : M D} {fs fi : M (List D)}
def iEnT (K : PySem.W.Frag) (ta : TA) : TI := fun σ H Rr => ta σ H fun vs H1 => (∃ ad xs, vs = [.ref ad] ∧ SqT K H1 ad xs ∧ Rr (Ien (fun i H v => (∃ xs, SqT K H ad xs ∧ xs[i]? = some v)) (fun i H v => ∀ xs, SqT K H ad xs → xs[i]? = some v) (fun i H => ∃ xs, SqT K H ad xs ∧ xs.length = i)) H1)
def iEnS (ta : TA) : TI := fun σ H Rr => ta σ H fun vs H1 => ∃ x, vs = [.str x] ∧ Rr (Ien (fun i _ v => ∃ c, x.cps[i]? = some c ∧ v = .str ⟨#[c]⟩) (fun i _ v => ∃ c, x.cps[i]? = some c ∧ v = .str ⟨#[c]⟩) (fun i _ => x.cps.size = i)) H1
theorem en_two {pins : List (Addr × Obj)} {σ : St} {H : Hp} {s : Shared} (I : Inv X pins σ H s) : ∀ b ∈ [s.heap.objs.size + 1, s.heap.objs.size], FpOk X pins H b := fun b hb => by
  have le : s.heap.objs.size ≤ b := by
    rcases List.mem_cons.mp hb with e | e
    · rw [e]
      exact Nat.le_succ _
    · rw [List.mem_singleton.mp e]
      exact Nat.le_refl _
  exact I.fpOk le (I.hok.fresh le)
theorem pi_enT {ta : TA} (hg : Gl X "enumerate") (hm : X.mg "enumerate" = none) (ha : PA X [e] ta) (hs : starEach [e] X.env = [(false, eval e X.env)] := by rfl) : PI X (.Tuple elts kk tp) (.Call (.Name "enumerate" p) [e] [] pos) (iEnT X.K ta) := by
  refine ⟨fun pins s σ H Rr I h => ?_⟩
  refine PyProof.Rows.Call_ (ld_blt I hg hm PyProof.Rows.boot_enumerate (PyProof.Rows.callWith_type1 (thn (ha.run pos pins s σ H _ I h) fun us s1 ⟨vs, H1, I1, r1, q1⟩ => ?_) hs rfl))
  obtain ⟨ad, xs, ex, hq, q⟩ := q1
  subst ex
  cases r1 with
  | cons r rr =>
    cases rr
    cases r
    obtain ⟨its, rv, isT, hz⟩ := I1.tuple hq
    refine call_enum1 (begins_tuple ad its.toArray) isT fun h' isE g0 hk => wpAny_pyIter_enum isE ?_
    have I2 : Inv X pins σ H1 { s1 with heap := h' } := I1.kept (t' := s1.toks) hk
    have z0 : h'.IsTupleIter s1.heap.objs.size ad 0 := ⟨_, g0, rfl, rfl⟩
    exact ⟨s1.heap.objs.size + 1, [s1.heap.objs.size + 1, s1.heap.objs.size], _, _, H1, rfl, I2, turn_en (src_tup ad s1.heap.objs.size) (Nat.succ_ne_self _), ⟨⟨.none, isE⟩, z0⟩, en_two I1, q⟩
theorem pi_enS {ta : TA} (hg : Gl X "enumerate") (hm : X.mg "enumerate" = none) (ha : PA X [e] ta) (hs : starEach [e] X.env = [(false, eval e X.env)] := by rfl) : PI X (.Tuple elts kk tp) (.Call (.Name "enumerate" p) [e] [] pos) (iEnS ta) := by
  refine ⟨fun pins s σ H Rr I h => ?_⟩
  refine PyProof.Rows.Call_ (ld_blt I hg hm PyProof.Rows.boot_enumerate (PyProof.Rows.callWith_type1 (thn (ha.run pos pins s σ H _ I h) fun us s1 ⟨vs, H1, I1, r1, q1⟩ => ?_) hs rfl))
  obtain ⟨x, ex, q⟩ := q1
  subst ex
  cases r1 with
  | cons r rr =>
    cases rr
    obtain ⟨t, rfl⟩ := r
    refine call_enum1 (begins_text x t) True.intro fun h' isE g0 hk => wpAny_pyIter_enum isE ?_
    have I2 : Inv X pins σ H1 { s1 with heap := h' } := I1.kept (t' := s1.toks) hk
    have z0 : h'.IsStrIter s1.heap.objs.size (strIterType x) x t 0 := ⟨_, g0, rfl, rfl⟩
    exact ⟨s1.heap.objs.size + 1, [s1.heap.objs.size + 1, s1.heap.objs.size], _, _, H1, rfl, I2, turn_en (src_str x t s1.heap.objs.size) (Nat.succ_ne_self _), ⟨⟨.none, isE⟩, z0⟩, en_two I1, q⟩
theorem get_mapIdx {ds : List D} {i : Nat} {d : D} (h : (ds.mapIdx fun i x => D.tup [.int (i : Nat), x])[i]? = some d) : ∃ y, ds[i]? = some y ∧ d = .tup [.int (i : Nat), y] := by
  rw [List.getElem?_mapIdx] at h
  cases e : ds[i]? with
  | none =>
    rw [e] at h
    cases h
  | some y =>
    rw [e] at h
    exact ⟨y, rfl, (Option.some.inj h).symm⟩
theorem wk_enT {K : PySem.W.Frag} {F : Hp} {ad : Addr} {vs : List V} {ds : List D} (h : F ad = some (.tup vs)) (d : Dvs K F vs ds) :
    Wk K F (Ien (fun i H v => (∃ xs, SqT K H ad xs ∧ xs[i]? = some v)) (fun i H v => ∀ xs, SqT K H ad xs → xs[i]? = some v) (fun i H => ∃ xs, SqT K H ad xs ∧ xs.length = i)) (ds.mapIdx fun i x => D.tup [.int (i : Nat), x]) := fun i H s => by
  have hA : SqT K H ad vs := SqT.of (s _ _ h)
  refine ⟨fun hi => ⟨vs, hA, by rw [d.len]; simpa using hi⟩, fun x hx => ?_⟩
  obtain ⟨y, h1, h2⟩ := get_mapIdx hx
  obtain ⟨v, g1, g2⟩ := d.get h1
  refine ⟨⟨v, vs, hA, g1⟩, fun z H' yl => ?_⟩
  obtain ⟨p0, v', e1, e2, e3, hx'⟩ := yl
  have hx' := hx' vs hA
  rw [g1] at hx'
  cases hx'
  exact .inr ⟨p0, _, _, e2, e3, e1, h2, .cons (.int _) (.cons g2 .nil)⟩
theorem wk_enS {K : PySem.W.Frag} {F : Hp} {x : Str} (ok : PyData.strOk x = true) :
    Wk K F (Ien (fun i _ v => ∃ c, x.cps[i]? = some c ∧ v = .str ⟨#[c]⟩) (fun i _ v => ∃ c, x.cps[i]? = some c ∧ v = .str ⟨#[c]⟩) (fun i _ => x.cps.size = i)) ((x.cps.toList.map fun c => D.str [c]).mapIdx fun i x => D.tup [.int (i : Nat), x]) := fun i H s => by
  refine ⟨fun hi => by
    show x.cps.size = i
    simpa using hi, fun d hd => ?_⟩
  obtain ⟨y, h1, h2⟩ := get_mapIdx hd
  rw [List.getElem?_map] at h1
  cases ec : x.cps.toList[i]? with
  | none =>
    rw [ec] at h1
    cases h1
  | some c =>
    rw [ec] at h1
    cases h1
    have ec' : x.cps[i]? = some c := by simpa using ec
    refine ⟨⟨_, c, ec', rfl⟩, fun z H' yl => ?_⟩
    obtain ⟨p0, v', e1, e2, e3, c', g1, g2⟩ := yl
    rw [ec'] at g1
    cases g1
    subst g2
    exact .inr ⟨p0, _, _, e2, e3, e1, h2, .cons (.int _) (.cons (sign_dv ok ec') .nil)⟩
theorem di_enT (hg : Gl X "enumerate") (hm : X.mg "enumerate" = none) (h : DE T cv X E e fa) (hs : starEach [e] X.env = (false, eval e X.env) :: starEach [] X.env := by rfl) : DI T cv X E (.Tuple elts kk tp) (.Call (.Name "enumerate" p) [e] [] pos) (iEnum (iT fa)) := by
  obtain ⟨t, pp, q⟩ := h
  refine ⟨_, pi_enT hg hm (pa_cons pp pa_nil hs) hs, fun B r σ F H R rep h => ?_⟩
  have h : Po T cv (Wk X.K) X.K B σ F E R ((iT fa r).andThen fun xs r1 => .ok (xs.mapIdx fun i x => D.tup [.int (i : Nat), x]) r1) := h
  unfold iT at h
  cases er : fa r with
  | ok d r1 =>
    rw [er] at h
    refine q B r σ F H _ rep ?_
    rw [er]
    intro F1 H1 v s1 rep1 dv
    cases dv with
    | tup hF dvs => exact ⟨_, _, rfl, SqT.of (rep1.ext.sub _ _ hF), h F1 H1 _ s1 rep1 (wk_enT hF dvs)⟩
    | _ => exact h.elim
  | exc c r1 =>
    rw [er] at h
    refine q B r σ F H _ rep ?_
    rw [er]
    exact h
  | bad =>
    rw [er] at h
    exact h.elim
theorem di_enS (hg : Gl X "enumerate") (hm : X.mg "enumerate" = none) (h : DE T cv X E e fa) (hs : starEach [e] X.env = (false, eval e X.env) :: starEach [] X.env := by rfl) : DI T cv X E (.Tuple elts kk tp) (.Call (.Name "enumerate" p) [e] [] pos) (iEnum (iS fa)) := by
  obtain ⟨t, pp, q⟩ := h
  refine ⟨_, pi_enS hg hm (pa_cons pp pa_nil hs) hs, fun B r σ F H R rep h => ?_⟩
  have h : Po T cv (Wk X.K) X.K B σ F E R ((iS fa r).andThen fun xs r1 => .ok (xs.mapIdx fun i x => D.tup [.int (i : Nat), x]) r1) := h
  unfold iS at h
  cases er : fa r with
  | ok d r1 =>
    rw [er] at h
    refine q B r σ F H _ rep ?_
    rw [er]
    intro F1 H1 v s1 rep1 dv
    cases dv with
    | str x _ ok => exact ⟨x, rfl, h F1 H1 _ s1 rep1 (wk_enS ok)⟩
    | _ => exact h.elim
  | exc c r1 =>
    rw [er] at h
    refine q B r σ F H _ rep ?_
    rw [er]
    exact h
  | bad =>
    rw [er] at h
    exact h.elim
end
end FB
/-! Small things for the printed walk. -/
namespace FB
open PySem PySem.Spec L2
/-- an exception class of the program -/
structure ExF (K : PySem.W.Frag) (mg : Str → Option Value) (x : Str) (v : Value) : Prop where
  ex : ∃ C, v = .ref C ∧ mg x = some (.ref C) ∧ PySem.W.excIn K C He.veBase "ValueError.__new__" = true ∧ PySem.W.keepIn K (.ref C) = true ∧ PySem.W.subIn K (.ref C) (.type "BaseException") = some true ∧ PySem.W.typeIn K (.ref C) = some (.type "type")
theorem pm_own {X : Cx} {x m : Str} {v : Value} {j : Nat} {p p2 pos : Pos} (F : ExF X.K X.mg x v) (hg : Gl X x) (hdb : (x == ("__debug__" : Str)) = false := by decide) :
    L2N.PMk X (.Call (.Name x p) [.Constant (.str m) j p2] [] pos) (fun _ H Q => Q v none H) := by
  obtain ⟨C, rfl, g, h1, h2, h3, h4⟩ := F.ex
  exact L2N.pmk_own PySem.F.excBase_ValueError h1 g h2 (raises_own h3 h4) hg hdb
end FB
/-! Order of data, repeated sequences, slices, the table. -/
namespace FB
open PySem PySem.Spec L2
/-! ### order -/
theorem natsLt_eq : ∀ a b : List Nat, natsLt a b = decide (a < b)
  | [], [] => by simp [natsLt]
  | [], _ :: _ => by simp [natsLt]
  | _ :: _, [] => by simp [natsLt]
  | a :: x, b :: y => by
    unfold natsLt
    rw [natsLt_eq x y, Bool.eq_iff_iff]
    simp only [Bool.or_eq_true, decide_eq_true_eq, Bool.and_eq_true, beq_iff_eq]
    constructor
    · rintro (h | ⟨rfl, h⟩)
      · exact List.cons_lt_cons_iff.mpr (.inl h)
      · exact List.cons_lt_cons_iff.mpr (.inr ⟨rfl, h⟩)
    · exact List.cons_lt_cons_iff.mp
theorem tokLt_eq : ∀ a b : Tok', tokLt a b = PyProof.Rows.itemLt a b
  | .inl _, .inl _ => rfl
  | .inl _, .inr _ => rfl
  | .inr _, .inl _ => rfl
  | .inr a, .inr b => natsLt_eq a b
theorem toksLt_eq : ∀ a b : List Tok', toksLt a b = PyProof.Rows.lexLt PyProof.Rows.itemOrd a b
  | [], [] => rfl
  | [], _ :: _ => rfl
  | _ :: _, [] => rfl
  | x :: r, y :: t => by
    unfold toksLt
    rw [PyProof.Rows.lex_cons, toksLt_eq r t, tokLt_eq x y, tokLt_eq y x]
mutual
theorem toks_py : ∀ d : D, d.dep ≤ 60 → PySem.W.keyToks d.py = d.toks
  | .non, _ | .bl _, _ | .int _, _ | .str _, _ => by simp [D.py, PySem.W.keyToks, D.toks]
  | .fz _, h | .opq _, h | .dic _ _, h => by simp [D.dep] at h
  | .lst xs, h => by
    simp only [D.dep] at h
    simp only [D.py, PySem.W.keyToks, D.toks]
    exact toksL_py xs (by omega)
  | .tup xs, h => by
    simp only [D.dep] at h
    simp only [D.py, PySem.W.keyToks, D.toks]
    exact toksL_py xs (by omega)
theorem toksL_py : ∀ xs : List D, D.depL xs ≤ 60 → PySem.W.keyToksAll (D.py.go xs) = D.toksL xs
  | [], _ => by simp [D.py.go, PySem.W.keyToksAll, D.toksL]
  | x :: xs, h => by
    have h1 : max (D.dep x) (D.depL xs) ≤ 60 := by simpa only [D.depL] using h
    simp only [D.py.go, PySem.W.keyToksAll, D.toksL]
    rw [toks_py x (by omega), toksL_py xs (by omega)]
end
mutual
theorem alike_py : ∀ d e : D, D.alike d e = true → PySem.W.alike d.py e.py = true
  | .lst xs, .lst ys, h => by
    simp only [D.alike] at h
    simp only [D.py, PySem.W.alike]
    exact alikeL_py xs ys h
  | .tup xs, .tup ys, h => by
    simp only [D.alike] at h
    simp only [D.py, PySem.W.alike]
    exact alikeL_py xs ys h
  | .non, .non, _ | .bl _, .bl _, _ | .int _, .int _, _ | .str _, .str _, _ => by simp [D.py, PySem.W.alike]
  | .fz _, _, h | .opq _, _, h | .dic _ _, _, h => by simp [D.alike] at h
  | .non, .opq _, h | .bl _, .opq _, h | .int _, .opq _, h | .str _, .opq _, h | .lst _, .opq _, h | .tup _, .opq _, h => by simp [D.alike] at h
  | .non, .dic _ _, h | .bl _, .dic _ _, h | .int _, .dic _ _, h | .str _, .dic _ _, h | .lst _, .dic _ _, h | .tup _, .dic _ _, h => by simp [D.alike] at h
  | .non, .fz _, h | .bl _, .fz _, h | .int _, .fz _, h | .str _, .fz _, h | .lst _, .fz _, h | .tup _, .fz _, h => by simp [D.alike] at h
  | .non, .bl _, h | .non, .int _, h | .non, .str _, h | .non, .lst _, h | .non, .tup _, h => by simp [D.alike] at h
  | .bl _, .non, h | .bl _, .int _, h | .bl _, .str _, h | .bl _, .lst _, h | .bl _, .tup _, h => by simp [D.alike] at h
  | .int _, .non, h | .int _, .bl _, h | .int _, .str _, h | .int _, .lst _, h | .int _, .tup _, h => by simp [D.alike] at h
  | .str _, .non, h | .str _, .bl _, h | .str _, .int _, h | .str _, .lst _, h | .str _, .tup _, h => by simp [D.alike] at h
  | .lst _, .non, h | .lst _, .bl _, h | .lst _, .int _, h | .lst _, .str _, h | .lst _, .tup _, h => by simp [D.alike] at h
  | .tup _, .non, h | .tup _, .bl _, h | .tup _, .int _, h | .tup _, .str _, h | .tup _, .lst _, h => by simp [D.alike] at h
theorem alikeL_py : ∀ xs ys : List D, D.alikeL xs ys = true → PySem.W.alikeAll (D.py.go xs) (D.py.go ys) = true
  | [], _, _ => by simp [D.py.go, PySem.W.alikeAll]
  | _ :: _, [], _ => by simp [D.py.go, PySem.W.alikeAll]
  | x :: xs, y :: ys, h => by
    simp only [D.alikeL, Bool.and_eq_true] at h
    simp only [D.py.go, PySem.W.alikeAll, Bool.and_eq_true]
    exact ⟨alike_py x y h.1, alikeL_py xs ys h.2⟩
end
theorem lt_py {d e : D} (h1 : d.dep ≤ 60) (h2 : e.dep ≤ 60) : PySem.W.dataLt d.py e.py = D.lt d e := by
  unfold PySem.W.dataLt D.lt
  rw [toks_py d h1, toks_py e h2, toksLt_eq]
def rLtD (K : PySem.W.Frag) : R2 := fun x y H Q => ∃ d e, Dp K H x d ∧ Dp K H y e ∧ PySem.W.alike d e = true ∧ d ≠ .none ∧ d.depth ≤ 60 ∧ e.depth ≤ 60 ∧ Q (.bl (PySem.W.dataLt d e)) H
def rGtD (K : PySem.W.Frag) : R2 := fun x y H Q => ∃ d e, Dp K H x d ∧ Dp K H y e ∧ PySem.W.alike d e = true ∧ d ≠ .none ∧ d.depth ≤ 60 ∧ e.depth ≤ 60 ∧ Q (.bl (PySem.W.dataLt e d)) H
section
variable {X : Cx}
theorem op_ltD (hu : X.A.units + 64 < cLine) : OpR X (compareOp .Lt) (rLtD X.K) := by
  intro pins s σ H x y v u Q I rx ry h
  obtain ⟨d, e, hd, he, sd, se, k1, k2, q⟩ := h
  obtain ⟨as, r1⟩ := Dp.reads I d x v hd rx
  obtain ⟨bs, r2⟩ := Dp.reads I e y u he ry
  exact PySem.W.lt_data r1 r2 sd se (by omega) ⟨.bl _, H, I, rfl, q⟩
theorem op_gtD (hu : X.A.units + 64 < cLine) : OpR X (compareOp .Gt) (rGtD X.K) := by
  intro pins s σ H x y v u Q I rx ry h
  obtain ⟨d, e, hd, he, sd, se, k1, k2, q⟩ := h
  obtain ⟨as, r1⟩ := Dp.reads I d x v hd rx
  obtain ⟨bs, r2⟩ := Dp.reads I e y u he ry
  exact PySem.W.gt_data r1 r2 sd se (by omega) ⟨.bl _, H, I, rfl, q⟩
abbrev rLtA (K : PySem.W.Frag) : R2 := fun x y H Q => (rI0 fun i j => V.bl (decide (i < j))) x y H Q ∨ rLtD K x y H Q
abbrev rGtA (K : PySem.W.Frag) : R2 := fun x y H Q => (rI0 fun i j => V.bl (decide (j < i))) x y H Q ∨ rGtD K x y H Q
theorem o_lt (hu : X.A.units + 64 < cLine) : OpR X (compareOp .Lt) (rLtA X.K) := OpR.or op_lt (op_ltD hu)
theorem o_gt (hu : X.A.units + 64 < cLine) : OpR X (compareOp .Gt) (rGtA X.K) := OpR.or op_gt (op_gtD hu)
end
section
variable {T : List (Addr × Str)} {cv : Nat → Value} {K : PySem.W.Frag} {B : Bs} {r : En} {σ : St} {F F1 H H1 F' H' : Hp} {E : XK}
theorem non_py {d : D} (h : d.isNon = false) (hd : d.dep ≤ 60) : d.py ≠ .none := fun e => by
  cases d with
  | non => cases h
  | opq a => simp [D.dep] at hd
  | dic _ _ => simp [D.dep] at hd
  | _ => simp [D.py] at e
theorem lt_ok {d e : D} (h : ltOk d e = true) : D.alike d e = true ∧ d.isNon = false ∧ d.dep ≤ 60 ∧ e.dep ≤ 60 := by
  unfold ltOk at h
  simp only [Bool.and_eq_true, decide_eq_true_eq, Bool.not_eq_true'] at h
  exact ⟨h.1.1.1, h.1.1.2, h.1.2, h.2⟩
theorem p_lt' : Op2 T K (rLtA K) opLt := fun B r σ F H x y d e z Q rep dx dy ez q => by
  unfold opLt at ez
  split at ez
  · cases ez
    cases dx
    cases dy
    exact .inl ⟨_, _, rfl, rfl, q F H _ (Same.refl _) rep (.bl _)⟩
  · split at ez
    · rename_i h
      cases ez
      obtain ⟨h1, h2, h3, h4⟩ := lt_ok h
      refine .inr ⟨d.py, e.py, dx.dp rep.ext.sub (by omega), dy.dp rep.ext.sub (by omega), alike_py _ _ h1, non_py h2 h3, by rw [dep_py d h3]; exact h3, by rw [dep_py e h4]; exact h4, ?_⟩
      rw [lt_py h3 h4]
      exact q F H _ (Same.refl _) rep (.bl _)
    · cases ez
theorem p_gt' : Op2 T K (rGtA K) opGt := fun B r σ F H x y d e z Q rep dx dy ez q => by
  unfold opGt at ez
  split at ez
  · cases ez
    cases dx
    cases dy
    exact .inl ⟨_, _, rfl, rfl, q F H _ (Same.refl _) rep (.bl _)⟩
  · split at ez
    · rename_i h
      cases ez
      obtain ⟨h1, h2, h3, h4⟩ := lt_ok h
      refine .inr ⟨d.py, e.py, dx.dp rep.ext.sub (by omega), dy.dp rep.ext.sub (by omega), alike_py _ _ h1, non_py h2 h3, by rw [dep_py d h3]; exact h3, by rw [dep_py e h4]; exact h4, ?_⟩
      rw [lt_py h4 h3]
      exact q F H _ (Same.refl _) rep (.bl _)
    · cases ez
end
/-! ### * -/
def rRepS : R2 := fun x y H Q => ∃ (z : Str) (k : Int), x = .str z ∧ y = .int k ∧ -1000 ≤ k ∧ k ≤ 1000 ∧ z.cps.size ≤ 100 ∧ Q (.str ⟨(List.replicate k.toNat z.cps.toList).flatten.toArray⟩) H
theorem rep_fold (z : List Nat) : ∀ (m : Nat) (acc : Array Nat), (List.replicate m z.toArray).foldl (· ++ ·) acc = acc ++ (List.replicate m z).flatten.toArray
  | 0, acc => by simp
  | m + 1, acc => by
    rw [List.replicate_succ, List.foldl_cons, rep_fold z m, List.replicate_succ, List.flatten_cons, Array.append_assoc]
    simp
theorem op_repS {X : Cx} : OpR X (binaryOp .Mult) rRepS := by
  intro pins s σ H x y v u Q I rx ry h
  obtain ⟨z, k, rfl, rfl, h1, h2, h3, q⟩ := h
  obtain ⟨t, rfl⟩ := rx
  obtain ⟨t', rfl⟩ := ry
  have hz : z.length ≤ 100 := h3
  have b1 : k < 1 ∨ (1 ≤ k ∧ k ≤ 1000) := by omega
  refine PySem.P.mul_str ?_ (fun g1 _ => ?_) (fun g1 _ => ?_) ?_
  · rw [decide_eq_false (by omega), decide_eq_false (by omega)]
    rfl
  · have g2 : (1000 : Int) * 1000 ≤ (2 ^ 63 - 1) / k := by
      apply (Int.le_ediv_iff_mul_le (by omega)).mpr
      have : (1000 * 1000) * k ≤ (1000 * 1000) * 1000 := Int.mul_le_mul_of_nonneg_left (by omega) (by omega)
      omega
    omega
  · have g3 : z.length * k.toNat ≤ 100 * 1000 := Nat.mul_le_mul hz (by omega)
    have g4 : z.length * k.toNat ≤ sizeLine := Nat.le_trans g3 (by decide)
    exact decide_eq_false (by omega)
  · have e0 : (⟨(List.replicate k.toNat z.cps).foldl (· ++ ·) #[]⟩ : Str) = ⟨(List.replicate k.toNat z.cps.toList).flatten.toArray⟩ := by
      have := rep_fold z.cps.toList k.toNat #[]
      rw [Array.toArray_toList] at this
      rw [this]
      simp
    split
    · rename_i hk
      have e1 : (⟨(List.replicate k.toNat z.cps.toList).flatten.toArray⟩ : Str) = Str.empty := by
        rw [show k.toNat = 0 by omega]
        rfl
      rw [e1] at q
      exact ⟨by decide, .str _, H, I.tok _, ⟨_, rfl⟩, q⟩
    · split
      · rename_i hk hk2
        have e1 : (⟨(List.replicate k.toNat z.cps.toList).flatten.toArray⟩ : Str) = z := by
          rw [Bool.or_eq_true] at hk2
          rcases hk2 with hk2 | hk2
          · have : k = 1 := by simpa using hk2
            subst this
            simp
          · have hz0 : z.length = 0 := by simpa using hk2
            have hz1 : z.cps = #[] := Array.eq_empty_of_size_eq_zero hz0
            obtain ⟨c⟩ := z
            have hz1 : c = #[] := hz1
            subst hz1
            simp
        rw [e1] at q
        exact ⟨.str _, H, I, ⟨_, rfl⟩, q⟩
      · rw [e0]
        refine ⟨?_, .str _, H, I.tok _, ⟨_, rfl⟩, q⟩
        have g3 : z.length * k.toNat ≤ 100 * 1000 := Nat.mul_le_mul hz (by omega)
        show ((List.replicate k.toNat z.cps.toList).flatten.toArray).size ≤ sizeLine
        rw [List.size_toArray, List.length_flatten, List.map_replicate, List.sum_replicate_nat]
        refine Nat.le_trans ?_ (show 100 * 1000 ≤ sizeLine by decide)
        rw [Nat.mul_comm]
        rw [Array.length_toList]
        exact g3
abbrev rMulA (K : PySem.W.Frag) : R2 := fun x y H Q => (rI CMul (fun i j => V.int (i * j))) x y H Q ∨ (rI CMulW (fun i j => V.int (i * j))) x y H Q ∨ rRepS x y H Q ∨ rRep x y H Q ∨ rRepT K x y H Q
theorem o_mul {X : Cx} : OpR X (binaryOp .Mult) (rMulA X.K) := OpR.or op_mul (OpR.or op_mulW (OpR.or op_repS (OpR.or op_rep op_repT)))
section
variable {T : List (Addr × Str)} {cv : Nat → Value} {K : PySem.W.Frag} {B : Bs} {r : En} {σ : St} {F F1 H H1 F' H' : Hp} {E : XK}
theorem Dvs.rep {vs : List V} {ds : List D} (h : Dvs K F vs ds) : ∀ m : Nat, Dvs K F (List.replicate m vs).flatten (List.replicate m ds).flatten
  | 0 => .nil
  | m + 1 => by
    rw [List.replicate_succ, List.replicate_succ, List.flatten_cons, List.flatten_cons]
    exact h.append (h.rep m)
theorem log_small {i : Int} (h : i.natAbs.log2 ≤ 62) : -(2 ^ 64 : Int) < i ∧ i < 2 ^ 64 := by
  have h1 : i.natAbs < 2 ^ (i.natAbs.log2 + 1) := Nat.lt_log2_self
  have h2 : 2 ^ (i.natAbs.log2 + 1) ≤ 2 ^ 63 := Nat.pow_le_pow_right (by decide) (by omega)
  have e1 : (2 : Int) ^ 64 = 18446744073709551616 := by decide
  have e2 : 2 ^ 63 = 9223372036854775808 := by decide
  rw [e1]
  rw [e2] at h2
  omega
theorem mul_ok {i j : Int} (h : mulOk i j = true) : CMul i j ∨ CMulW i j := by
  unfold mulOk at h
  rw [Bool.or_eq_true, Bool.or_eq_true] at h
  rcases h with h | h | h
  · exact .inl (.inr (log_small (Nat.le_of_ble_eq_true h)))
  · exact .inl (.inl (log_small (Nat.le_of_ble_eq_true h)))
  · exact .inr (Nat.lt_of_le_of_lt (Nat.le_of_ble_eq_true h) (by decide))
theorem p_mul : Op2 T K (rMulA K) opMul := fun B r σ F H x y d e z Q rep dx dy ez q => by
  unfold opMul at ez
  split at ez
  · split at ez
    · rename_i i j hm
      cases ez
      cases dx
      cases dy
      rcases mul_ok hm with hm | hm
      · exact .inl ⟨i, j, rfl, rfl, hm, q F H _ (Same.refl _) rep (.int _)⟩
      · exact .inr (.inl ⟨i, j, rfl, rfl, hm, q F H _ (Same.refl _) rep (.int _)⟩)
    · cases ez
  · split at ez
    · rename_i x0 k hm
      cases ez
      cases dy
      cases dx with
      | str z h1 h2 =>
        obtain ⟨a1, a2, a3⟩ := hm
        have a3 : z.cps.size ≤ 100 := by simpa using a3
        refine .inr (.inr (.inl ⟨z, k, rfl, rfl, a1, a2, a3, q F H _ (Same.refl _) rep ?_⟩))
        have l1 : (List.replicate k.toNat z.cps.toList).flatten.length ≤ lim := by
          rw [List.length_flatten, List.map_replicate, List.sum_replicate_nat]
          have : k.toNat * z.cps.toList.length ≤ 1000 * 100 := Nat.mul_le_mul (by omega) (by simpa using a3)
          exact Nat.le_trans this (by decide)
        have := Dv.str (K := K) (F := F) ⟨(List.replicate k.toNat z.cps.toList).flatten.toArray⟩ (by simpa using l1) (by
          show ((List.replicate k.toNat z.cps.toList).flatten.toArray).all (· < 0x110000) = true
          rw [Array.all_eq_true_iff_forall_mem]
          intro c hc
          rw [List.mem_toArray, List.mem_flatten] at hc
          obtain ⟨l, hl, hc⟩ := hc
          rw [List.mem_replicate] at hl
          rw [hl.2] at hc
          exact Array.all_eq_true_iff_forall_mem.mp (show z.cps.all (· < 0x110000) = true from h2) c (by simpa using hc))
        simpa using this
    · cases ez
  · split at ez
    · rename_i x0 k hm
      cases ez
      cases dy
      cases dx with
      | lst hF dvs =>
        obtain ⟨a1, a2, a3⟩ := hm
        refine .inr (.inr (.inr (.inl ⟨_, k, _, rfl, rfl, rep.ext.sub _ _ hF, by omega, by omega, ?_, fun p hp => rep.new hp (dvs.rep _) Q q⟩)))
        rw [dvs.len]
        have : x0.length * k.toNat ≤ 100 * 1000 := Nat.mul_le_mul a3 (by omega)
        exact Nat.le_trans this (by decide)
    · cases ez
  · split at ez
    · rename_i x0 k hm
      cases ez
      cases dy
      cases dx with
      | tup hF dvs =>
        obtain ⟨a0, a1, a2, a3⟩ := hm
        refine .inr (.inr (.inr (.inr ⟨_, k, _, rfl, rfl, SqT.of (rep.ext.sub _ _ hF), ?_, a1, a2, by rw [dvs.len]; omega, fun p hp => rep.newT hp (dvs.rep _) Q q⟩)))
        intro e
        subst e
        cases dvs
        cases a0
    · cases ez
  · cases ez
end
/-! ### slices -/
section
variable {T : List (Addr × Str)} {cv : Nat → Value} {K : PySem.W.Frag} {B : Bs} {r : En} {σ : St} {F F1 H H1 F' H' : Hp} {E : XK}
theorem Dvs.drop : ∀ {vs : List V} {ds : List D} (k : Nat), Dvs K F vs ds → Dvs K F (vs.drop k) (ds.drop k)
  | _, _, 0, h => h
  | _, _, _ + 1, .nil => .nil
  | _, _, k + 1, .cons _ t => t.drop k
theorem Dvs.take : ∀ {vs : List V} {ds : List D} (k : Nat), Dvs K F vs ds → Dvs K F (vs.take k) (ds.take k)
  | _, _, 0, _ => .nil
  | _, _, _ + 1, .nil => .nil
  | _, _, k + 1, .cons a t => .cons a (t.take k)
end
/-! ### [::-1] -/
section
variable {T : List (Addr × Str)} {cv : Nat → Value} {X : Cx} {E : XK} {e a b c : Expr} {pos p1 p2 p3 : Pos} {fa fb fc : M D} {k : Nat}
theorem PE.or {t t' : TE} (h : PE X e t) (h' : PE X e t') : PE X e (fun σ H Q => t σ H Q ∨ t' σ H Q) := ⟨fun pins s σ H Q I q => q.elim (h.run pins s σ H Q I) (h'.run pins s σ H Q I)⟩
/-! ### the table -/
structure TabF (K : PySem.W.Frag) (w : World) (mg : Str → Option Value) : Prop where
  ex : ∃ a : Addr, mg "OTHER" = some (.ref a) ∧ KDct K w a "#" (.str ".") ∧ KDct K w a "." (.str "#") ∧ KDct K w a "*" (.str "o") ∧ KDct K w a "o" (.str "*")
theorem tx_of {s : String} {c : Nat} (h : (Str.ofString s).cps.toList = [c]) (hc : c < 0x110000) {F : Hp} {K : PySem.W.Frag} : Dv K F (.str (Str.ofString s)) (.str [c]) := by
  have := Dv.str (K := K) (F := F) (Str.ofString s) (by
    have : (Str.ofString s).cps.toList.length = 1 := by rw [h]; rfl
    rw [Array.length_toList] at this
    rw [this]
    decide) (by
    show (Str.ofString s).cps.all (· < 0x110000) = true
    rw [Array.all_eq_true_iff_forall_mem]
    intro d hd
    have : d ∈ (Str.ofString s).cps.toList := by simpa using hd
    rw [h] at this
    simp only [List.mem_singleton] at this
    subst this
    simpa using hc)
  rwa [h] at this
theorem str_is {x : Str} {s : String} {c : Nat} (h : (Str.ofString s).cps.toList = [c]) (hx : x.cps.toList = [c]) : x = Str.ofString s := by
  have e : x.cps = (Str.ofString s).cps := by rw [← Array.toList_inj, hx, h]
  revert e
  generalize Str.ofString s = y
  intro e
  cases x
  cases y
  rw [Str.mk.injEq]
  exact e
theorem dv_str1 {K : PySem.W.Frag} {F : Hp} {x : V} {l : List Nat} (dx : Dv K F x (.str l)) : ∃ x0, x = .str x0 ∧ x0.cps.toList = l := by
  generalize hd : D.str l = d at dx
  cases dx with
  | str x0 h1 h2 =>
    injection hd with hd
    exact ⟨x0, rfl, hd.symm⟩
  | _ => cases hd
theorem de_tab (hg : Gl X "OTHER") (t : TabF X.K X.w X.mg) (hb : DE T cv X E b fb) (hs : PlainIx b) : DE T cv X E (.Subscript (.Name "OTHER" p1) b pos) (e1 tabO fb) := by
  obtain ⟨a, hm, k1, k2, k3, k4⟩ := t.ex
  obtain ⟨tb, pb, qb⟩ := hb
  refine ⟨_, pe_ix ix_kdict (pe_glob (v := .ref a) hg hm rfl (by decide +kernel)) pb hs, fun B r σ F H Q rep h => ?_⟩
  refine qb B r σ F H _ rep (Po.bind h fun d r1 F1 H1 x _ s1 rep1 dx h1 => ?_)
  obtain ⟨z, ez, q⟩ := h1.lift
  have q1 := fun v dv => q F1 H1 v (Same.refl _) rep1 dv
  unfold tabO at ez
  split at ez
  · cases ez
    obtain ⟨x0, rfl, e0⟩ := dv_str1 dx
    exact ⟨a, "#", _, rfl, by rw [str_is (s := "#") (by decide +kernel) e0], k1, q1 _ (tx_of (by decide +kernel) (by decide))⟩
  · cases ez
    obtain ⟨x0, rfl, e0⟩ := dv_str1 dx
    exact ⟨a, ".", _, rfl, by rw [str_is (s := ".") (by decide +kernel) e0], k2, q1 _ (tx_of (by decide +kernel) (by decide))⟩
  · cases ez
    obtain ⟨x0, rfl, e0⟩ := dv_str1 dx
    exact ⟨a, "*", _, rfl, by rw [str_is (s := "*") (by decide +kernel) e0], k3, q1 _ (tx_of (by decide +kernel) (by decide))⟩
  · cases ez
    obtain ⟨x0, rfl, e0⟩ := dv_str1 dx
    exact ⟨a, "o", _, rfl, by rw [str_is (s := "o") (by decide +kernel) e0], k4, q1 _ (tx_of (by decide +kernel) (by decide))⟩
  · cases ez
end
end FB
/-! The law's rounds, the law. -/
namespace FB
open PySem PySem.Spec L2
/-- the rounds' list: its items are lists of two ints each, apart from one another -/
structure Rnd (T : List (Addr × Str)) (H : Hp) (p : Addr) (ps : List (Addr × Int)) : Prop where
  tb : LamX.Tabs T H
  at_ : H p = some (.lst (ps.map fun q => V.ref q.1))
  off : ∀ q ∈ ps, q.1 ≠ p
  nd : (ps.map (·.1)).Nodup
  it : ∀ q ∈ ps, H q.1 = some (.lst [.int q.2, .int 0])
def spRounds (T : List (Addr × Str)) (K : PySem.W.Frag) : Sp := fun vs H Q _ => ∃ (a : Addr) (ns : List Int) (m : Int), vs = [.ref a, .int m] ∧ (ns.length ≤ 63 ∧ m ≤ 1000) ∧ SqL K H a (ns.map V.int) ∧ LamX.Tabs T H ∧ ∀ H' p ps, Rnd T H' p ps → Q (.ref p) H'
def spLaw (T : List (Addr × Str)) (K : PySem.W.Frag) : Sp := fun vs H Q _ => ∃ (a : Addr) (ns : List Int), vs = [.ref a] ∧ ns.length ≤ 63 ∧ SqL K H a (ns.map V.int) ∧ LamX.Tabs T H ∧ ∀ H', Q (.bl true) H'
section
variable {T : List (Addr × Str)} {cv : Nat → Value} {X : Cx} {E : XK} {e a b c tg iter : Expr} {es : List Expr} {pos : Pos} {fa fb fc : M D} {fs fi : M (List D)} {st : Stmt} {rest body : List Stmt} {f g : M Fl} {tA : M Bool}
theorem pe_rounds {ec : Expr} {scope : Scope} {ps p0 : Pos} {j0 : Nat} {own : List (Str × Nat)} {te : M D} (hc : X.calm = true) (hN : X.N.Nodup) (hi : DI T cv X E tg iter fi) (ok : BlkOk X.N X.env.scope scope own) (hv : own.map (·.2) = [2])
    (hg : ∀ (s : Shared) (H : Hp) (C : Addr) (cl : List (Str × Addr)) (fp : List Addr), DG T (X.blk s H scope (compEnvC scope cl C X.env) fp) tg (gN 2) [2])
    (he : ∀ (s : Shared) (H : Hp) (C : Addr) (cl : List (Str × Addr)) (fp : List Addr), DE T cv (X.blk s H scope (compEnvC scope cl C X.env) fp) E0 ec te)
    (hst : ∀ (s : Shared) (H : Hp) (C : Addr) (cl : List (Str × Addr)) (fp : List Addr), starEach [ec, .Constant (.int 0) j0 p0] (X.blk s H scope (compEnvC scope cl C X.env) fp).env = (false, eval ec (X.blk s H scope (compEnvC scope cl C X.env) fp).env) :: starEach [.Constant (.int 0) j0 p0] (X.blk s H scope (compEnvC scope cl C X.env) fp).env)
    {ns : List Int} {m : Int} {xs : List D} (hfi : fi [.dat (.fz ns), .dat (.int m), .un] = .ok xs [.dat (.fz ns), .dat (.int m), .un]) (hl : xs.length ≤ lim)
    (hte : ∀ x ∈ xs, ∃ c, te [.dat (.fz ns), .dat (.int m), .dat x] = .ok (.int c) [.dat (.fz ns), .dat (.int m), .dat x]) (hs : ∀ x, foldedSetIterable iter X.env x = pure x := by intro _; rfl) :
    ∃ t, PE X (.ListComp (.List [ec, .Constant (.int 0) j0 p0] ps) [⟨tg, iter, [], 0⟩] scope pos) t ∧ ∀ ad H Q, SqL X.K H ad (ns.map V.int) → LamX.Tabs T H → (∀ H' p ps, Rnd T H' p ps → Q (.ref p) H') → t [some (.ref ad), some (.int m), none] H Q := by
  obtain ⟨wi, pi, qi⟩ := hi
  refine ⟨_, pe_lc (g := gD T X.K (gN 2) [2]) (tt := tYes) (te := tLst (tCons (tD T cv X.K E0 te) (tCons (tC (.int 0)) tNil))) hc hN pi ok (fun s H C cl fp => (hg s H C cl fp).pg) (fun s H C cl fp => pts_nil)
    (fun s H C cl fp => pe_lst (pa_cons (he s H C cl fp).pe (pa_cons pe_int pa_nil) (hst s H C cl fp))) hs, fun ad H Q hA hT q => ?_⟩
  rw [hv]
  obtain ⟨F0, s0, n0, a0⟩ : ∃ F0 : Hp, Same F0 H ∧ NT F0 ∧ SqL X.K F0 ad (ns.map V.int) := by
    rcases hA with h | h
    · obtain ⟨u, h, hu, nu⟩ : ∃ u, H ad = some u ∧ Rd (upd (fun _ => none) ad u) ad (.lst (ns.map V.int)) ∧ NoT u := by
        rcases h with h | ⟨o, h⟩
        · exact ⟨_, h, .inl upd_same, not_lst⟩
        · exact ⟨_, h, .inr ⟨o, upd_same⟩, fun _ z => nomatch z⟩
      refine ⟨upd (fun _ => none) ad u, fun b o e => ?_, NT.upd (fun b o e => by cases e) nu, .inl hu⟩
      by_cases hb : b = ad
      · subst hb
        rw [upd_same] at e
        rw [h]
        exact e
      · rw [upd_ne hb] at e
        cases e
    · exact ⟨fun _ => none, fun b o e => (by cases e), fun b o e => (by cases e), .inr h⟩
  have rep : Rep T X.K ⟨fun _ => False, F0, H⟩ [.dat (.fz ns), .dat (.int m), .un] [some (.ref ad), some (.int m), none] F0 H :=
    start_rep (N := ["script", "most", "k"]) (ds := [.fz ns, .int m]) (vs := [.ref ad, .int m]) s0 ⟨hT, n0⟩ (.cons (.fz a0) (.cons (.int m) .nil)) (by show 2 ≤ 3; omega)
  refine qi _ _ _ _ H _ rep ?_
  rw [hfi]
  intro F1 H1 J s1 rep1 wk Dl hD
  have sA : SqL X.K F1 ad (ns.map V.int) := by
    obtain ⟨v, h1, h2⟩ := rep1.dat 0 (.fz ns) rfl
    cases h1
    cases h2
    assumption
  have w0 : wipe [some (V.ref ad), some (V.int m), none] [2] = [some (V.ref ad), some (V.int m), none] := rfl
  refine ⟨fun i mm H => mm = xs.length - i ∧ i ≤ xs.length ∧ ∃ F ps, Same F1 F ∧ NT F ∧ Same F H ∧ F Dl = none ∧ ps.length = i ∧ Rnd T H Dl ps ∧ ∀ q ∈ ps, F q.1 = none, ?_, ?_⟩
  · refine ⟨xs.length, rfl, Nat.zero_le _, F1, [], Same.refl _, rep1.ext.nt, rep1.ext.sub.trans (same_upd hD), rep1.free hD, rfl, ⟨rep1.ext.tb.ext (same_upd hD), upd_same, fun q h => (by cases h), List.nodup_nil, fun q h => (by cases h)⟩, fun q h => (by cases h)⟩
  · rintro i mm Hh ⟨rfl, hi, F, pps, sF, nF, sH, fD, hlen, rnd, fN⟩
    obtain ⟨stop, go⟩ := wk i Hh (sF.trans sH)
    by_cases hlt : i < xs.length
    · obtain ⟨hgo, hy⟩ := go xs[i] (List.getElem?_eq_getElem hlt)
      refine .inr ⟨hgo, fun H => ∃ F ps, Same F1 F ∧ NT F ∧ Same F H ∧ F Dl = none ∧ ps.length = i + 1 ∧ Rnd T H Dl ps ∧ ∀ q ∈ ps, F q.1 = none, fun H' w => ⟨xs.length - (i + 1), by omega, rfl, hlt, w⟩, fun x H3 yl => ?_⟩
      have item : ∃ F3, Same F F3 ∧ NT F3 ∧ Same F3 H3 ∧ Dv X.K F3 x xs[i] ∧ Rnd T H3 Dl pps ∧ F3 Dl = none ∧ ∀ q ∈ pps, F3 q.1 = none := by
        rcases hy x H3 yl with ⟨e, dv⟩ | ⟨p0, us, ds, hn, e, ex, ed, dvs⟩
        · subst e
          exact ⟨F, Same.refl _, nF, sH, dv.mono sF, rnd, fD, fN⟩
        · subst e
          have n0 := sH.free hn
          have ne : ∀ b o, Hh b = some o → b ≠ p0 := fun b o h => ne_of_none h hn
          refine ⟨upd F p0 (.tup us), same_upd n0, nF.upd not_tup, same_both sH, ?_, ⟨rnd.tb.ext (same_upd hn), ?_, rnd.off, rnd.nd, fun q hq => ?_⟩, ?_, fun q hq => ?_⟩
          · rw [ex, ed]
            exact .tup upd_same (dvs.mono (sF.trans (same_upd n0)))
          · rw [upd_ne (ne _ _ rnd.at_)]
            exact rnd.at_
          · rw [upd_ne (ne _ _ (rnd.it q hq))]
            exact rnd.it q hq
          · rw [upd_ne (ne _ _ rnd.at_)]
            exact fD
          · rw [upd_ne (ne _ _ (rnd.it q hq))]
            exact fN q hq
      obtain ⟨F3, sF3, nF3, sH3, dv, rnd3, fD3, fN3⟩ := item
      have rep3 : Rep T X.K ⟨fun _ => False, F3, H3⟩ [.dat (.fz ns), .dat (.int m), .un] [some (.ref ad), some (.int m), none] F3 H3 :=
        start_rep (N := ["script", "most", "k"]) (ds := [.fz ns, .int m]) (vs := [.ref ad, .int m]) sH3 ⟨rnd3.tb, nF3⟩ (.cons (.fz ((sF.trans sF3).seq sA)) (.cons (.int m) .nil)) (by show 2 ≤ 3; omega)
      refine ⟨_, _, F3, xs[i], _, rep3, dv, rfl, fun σ2 rep4 hw => ⟨hw, ?_⟩⟩
      unfold tYes
      dsimp only
      rw [if_pos rfl]
      obtain ⟨c, hcx⟩ := hte xs[i] (List.getElem_mem hlt)
      refine ⟨_, _, F3, rep4, ?_⟩
      show PoE T cv X.K _ σ2 F3 E0 _ (te [.dat (.fz ns), .dat (.int m), .dat xs[i]])
      rw [hcx]
      intro F6 H6 v s6 rep6 dv6
      cases dv6
      refine ⟨by show 2 ≤ sizeLine; decide, fun p hp => ?_⟩
      have at6 : H6 Dl = some (.lst (pps.map fun q => V.ref q.1)) := rep6.ext.hh _ _ rnd3.at_ not_lst (fun z => z)
      have f6 : F6 Dl = none := rep6.ext.nf _ _ rnd3.at_ not_lst fD3
      have nD : Dl ≠ p := ne_of_none at6 hp
      refine ⟨_, by rw [upd_ne nD]; exact at6, by rw [List.length_map, hlen]; exact Nat.lt_of_lt_of_le hlt (Nat.le_trans hl (by decide)), ?_⟩
      have it6 : ∀ q ∈ pps, H6 q.1 = some (.lst [.int q.2, .int 0]) := fun q hq => rep6.ext.hh _ _ (rnd3.it q hq) not_lst (fun z => z)
      have fp : F6 p = none := rep6.free hp
      have sU : Same F6 (upd H6 p (.lst [.int c, .int 0])) := rep6.ext.sub.trans (same_upd hp)
      have wr := Ext.write (F := F6) (H := upd H6 p (.lst [.int c, .int 0])) (us := (pps.map fun q => V.ref q.1) ++ [V.ref p]) sU (rep6.ext.tb.ext (same_upd hp)) rep6.ext.nt (p := Dl) (by rw [upd_ne nD]; exact at6) f6
      refine ⟨F6, pps ++ [(p, c)], (sF.trans sF3).trans s6, rep6.ext.nt, wr.sub, f6, by rw [List.length_append, hlen]; rfl, ⟨wr.tb, ?_, fun q hq => ?_, ?_, fun q hq => ?_⟩, fun q hq => ?_⟩
      · rw [upd_same, List.map_append]
        rfl
      · rcases List.mem_append.mp hq with h | h
        · exact rnd3.off q h
        · rw [List.mem_singleton.mp h]
          exact Ne.symm nD
      · rw [List.map_append, List.nodup_append]
        refine ⟨rnd3.nd, by simp, fun u hu w hw' => ?_⟩
        obtain ⟨q, hq, rfl⟩ := List.mem_map.mp hu
        have hw' : w = p := by simpa using hw'
        rw [hw']
        exact ne_of_none (it6 q hq) hp
      · rcases List.mem_append.mp hq with h | h
        · have e1 : q.1 ≠ Dl := rnd3.off q h
          rw [upd_ne e1, upd_ne (ne_of_none (it6 q h) hp)]
          exact it6 q h
        · rw [List.mem_singleton.mp h]
          rw [upd_ne (Ne.symm nD), upd_same]
      · rcases List.mem_append.mp hq with h | h
        · exact rep6.ext.nf _ _ (rnd3.it q h) not_lst (fN3 q h)
        · rw [List.mem_singleton.mp h]
          exact fp
    · have e : i = xs.length := by omega
      subst e
      exact .inl ⟨stop rfl, q _ _ pps rnd⟩
/-- for dice in ..: body; return True -/
theorem law_core {n di k1 : Nat} {ti : TE} {σ0 : St} {H0 : Hp} {p1 p2 px : Pos} {x : Str} (hp : PassesOwn (model X.prog X.w) X.A X.env X.xe) (hc : X.calm = true) (pe : PE X iter ti) (hti : ∀ Q : VK, (∀ H' p ps, Rnd T H' p ps → Q (.ref p) H') → ti σ0 H0 Q)
    (hN : X.N.Nodup) (hi : X.N[di]? = some x) (hx : Loc X.env.scope x) (hb : DSs T cv X E body f) (hn : σ0.length = n) (hdi : di < n)
    (hf : ∀ c : Int, ∃ r', f ((List.replicate n Sl.un).set di (.bor [.int c, .int 0])) = .ok .nx r' ∧ r'.length = n)
    (hs : ∀ x, foldedSetIterable iter X.env x = pure x := by intro _; rfl) (hfn : X.fn x = true ∨ X.env.scope.names.lookup x = some .local := by first | exact .inl rfl | exact .inr rfl | assumption) :
    ∃ t, PSs X [.For (.Name x px) iter body [] pos, .Return (some (.Constant (.bool true) k1 p1)) p2] t ∧ ∀ D : Ends, (∀ H, D.rt (.bl true) H) → t D σ0 H0 := by
  obtain ⟨tb, pb, qb⟩ := hb
  refine ⟨_, pss_cons (ps_for hp hc (pi_list pe) (pg_name hN hi hx hfn) pb hs) (pss_one (ps_ret pe_bl)), fun D hD => ?_⟩
  refine hti _ fun H p ps rnd => ⟨p, rfl, ⟨_, SqL.of rnd.at_⟩, ?_⟩
  refine ⟨fun i m σ H => m = ps.length - i ∧ i ≤ ps.length ∧ σ.length = n ∧ LamX.Tabs T H ∧ H p = some (.lst (ps.map fun q => V.ref q.1)) ∧ ∀ (j : Nat) q, i ≤ j → ps[j]? = some q → H q.1 = some (.lst [.int q.2, .int 0]),
    ⟨ps.length, rfl, Nat.zero_le _, hn, rnd.tb, rnd.at_, fun j q _ h => rnd.it q (List.mem_of_getElem? h)⟩, ?_⟩
  rintro i m σ H ⟨rfl, hi, hσ, tb1, at1, it1⟩
  by_cases hlt : i < ps.length
  · have hget : ps[i]? = some ps[i] := List.getElem?_eq_getElem hlt
    have hgetV : (ps.map fun q => V.ref q.1)[i]? = some (V.ref ps[i].1) := by rw [List.getElem?_map, hget]; rfl
    refine .inr ⟨⟨_, _, SqL.of at1, hgetV⟩, fun σ' H' => σ'.length = n ∧ LamX.Tabs T H' ∧ H' p = some (.lst (ps.map fun q => V.ref q.1)) ∧ ∀ (j : Nat) q, i + 1 ≤ j → ps[j]? = some q → H' q.1 = some (.lst [.int q.2, .int 0]),
      fun σ' H' w => ⟨ps.length - (i + 1), by omega, rfl, hlt, w⟩, fun v H' yl => ?_⟩
    obtain ⟨e, hv⟩ := yl
    rw [e]
    have hv := hv _ (SqL.of at1)
    rw [hgetV] at hv
    cases hv
    show tb _ (σ.set di (some (V.ref ps[i].1))) H
    have iti := it1 i ps[i] (Nat.le_refl _) hget
    have rep : Rep T X.K ⟨fun b => b = ps[i].1, fun _ => none, H⟩ ((List.replicate n Sl.un).set di (.bor [.int ps[i].2, .int 0])) (σ.set di (some (V.ref ps[i].1))) (fun _ => none) H := by
      have sl : ∀ (j : Nat) s, ((List.replicate n Sl.un).set di (.bor [.int ps[i].2, .int 0]))[j]? = some s → (j = di ∧ s = .bor [.int ps[i].2, .int 0]) ∨ s = .un := fun j s h => by
        by_cases hj : j = di
        · subst hj
          rw [List.getElem?_set_self (by rw [List.length_replicate]; exact hdi)] at h
          exact .inl ⟨rfl, (Option.some.inj h).symm⟩
        · rw [List.getElem?_set_ne (Ne.symm hj), List.getElem?_replicate] at h
          split at h
          · exact .inr (Option.some.inj h).symm
          · cases h
      have on : ∀ j : Nat, notOwn ((List.replicate n Sl.un).set di (.bor [.int ps[i].2, .int 0]))[j]? = false → j = di := fun j h => by
        cases ej : ((List.replicate n Sl.un).set di (.bor [.int ps[i].2, .int 0]))[j]? with
        | none =>
          rw [ej] at h
          cases h
        | some s =>
          rcases sl j s ej with ⟨h1, _⟩ | h1
          · exact h1
          · rw [ej, h1] at h
            cases h
      refine ⟨Ext.refl (fun b o h => (by cases h)) tb1 (fun b o h => (by cases h)) fun b hb => ⟨.lst [.int ps[i].2, .int 0], (show b = ps[i].1 from hb) ▸ iti, not_lst, rfl⟩, by rw [List.length_set, List.length_set, List.length_replicate, hσ], fun j d h => ?_, fun j zs h => ?_, fun j zs h => ?_, fun j j' q h1 h2 _ _ => by rw [on j h1, on j' h2]⟩
      · rcases sl j _ h with ⟨_, h1⟩ | h1 <;> cases h1
      · rcases sl j _ h with ⟨_, h1⟩ | h1 <;> cases h1
      · rcases sl j _ h with ⟨h1, h2⟩ | h1
        · subst h1
          cases h2
          exact ⟨ps[i].1, _, List.getElem?_set_self (by rw [hσ]; exact hdi), iti, rfl, .cons (.int _) (.cons (.int _) .nil), rfl⟩
        · cases h1
    refine qb _ _ _ _ H _ rep ?_
    obtain ⟨r', hr, hrl⟩ := hf ps[i].2
    rw [hr]
    intro σ' F' H' s' rep'
    refine ⟨by rw [← rep'.len, hrl], rep'.ext.tb, rep'.ext.hh _ _ at1 not_lst (fun z => rnd.off _ (List.getElem_mem hlt) z.symm), fun j q hj hq => ?_⟩
    refine rep'.ext.hh _ _ (it1 j q (by omega) hq) not_lst fun z => ?_
    have z : q.1 = ps[i].1 := z
    have nd := rnd.nd
    have e1 : (ps.map (·.1))[i]? = some ps[i].1 := by rw [List.getElem?_map, hget]; rfl
    have e2 : (ps.map (·.1))[j]? = some ps[i].1 := by rw [List.getElem?_map, hq, ← z]; rfl
    have hjl : j < (ps.map (·.1)).length := (List.getElem?_eq_some_iff.mp e2).1
    have hil : i < (ps.map (·.1)).length := (List.getElem?_eq_some_iff.mp e1).1
    have := (List.getElem?_inj hil nd).mp (e1.trans e2.symm)
    omega
  · have e : i = ps.length := by omega
    subst e
    exact .inl ⟨⟨_, SqL.of at1, by rw [List.length_map]; exact Nat.le_refl _⟩, hD H⟩
end
end FB
namespace FB
open PySem PySem.Spec L2
section
variable {T : List (Addr × Str)} {cv : Nat → Value} {X : Cx} {E : XK} {e a b c tg iter : Expr} {es : List Expr} {pos : Pos} {fa fb fc : M D} {fs fi : M (List D)} {st : Stmt} {rest body : List Stmt} {f g : M Fl} {tA : M Bool}
theorem rounds_core {ec : Expr} {scope : Scope} {ps p0 p9 : Pos} {j0 : Nat} {own : List (Str × Nat)} {te : M D} {ad : Addr} {H : Hp} {D : Ends} {ns : List Int} {m : Int} {xs : List FB.D} (hfi : fi [.dat (.fz ns), .dat (.int m), .un] = .ok xs [.dat (.fz ns), .dat (.int m), .un]) (hl : xs.length ≤ lim)
    (hte : ∀ x ∈ xs, ∃ c, te [.dat (.fz ns), .dat (.int m), .dat x] = .ok (.int c) [.dat (.fz ns), .dat (.int m), .dat x]) (hA : SqL X.K H ad (ns.map V.int)) (hT : LamX.Tabs T H) (q : ∀ H' p ps, Rnd T H' p ps → D.rt (.ref p) H') (hc : X.calm = true) (hN : X.N.Nodup) (hi : DI T cv X E tg iter fi) (ok : BlkOk X.N X.env.scope scope own) (hv : own.map (·.2) = [2])
    (hg : ∀ (s : Shared) (H : Hp) (C : Addr) (cl : List (Str × Addr)) (fp : List Addr), DG T (X.blk s H scope (compEnvC scope cl C X.env) fp) tg (gN 2) [2])
    (he : ∀ (s : Shared) (H : Hp) (C : Addr) (cl : List (Str × Addr)) (fp : List Addr), DE T cv (X.blk s H scope (compEnvC scope cl C X.env) fp) E0 ec te)
    (hst : ∀ (s : Shared) (H : Hp) (C : Addr) (cl : List (Str × Addr)) (fp : List Addr), starEach [ec, .Constant (.int 0) j0 p0] (X.blk s H scope (compEnvC scope cl C X.env) fp).env = (false, eval ec (X.blk s H scope (compEnvC scope cl C X.env) fp).env) :: starEach [.Constant (.int 0) j0 p0] (X.blk s H scope (compEnvC scope cl C X.env) fp).env)
    (hs : ∀ x, foldedSetIterable iter X.env x = pure x := by intro _; rfl) : ∃ t, PSs X [.Return (some (.ListComp (.List [ec, .Constant (.int 0) j0 p0] ps) [⟨tg, iter, [], 0⟩] scope pos)) p9] t ∧ t D [some (.ref ad), some (.int m), none] H := by
  obtain ⟨t, pt, qt⟩ := pe_rounds (T := T) (cv := cv) (E := E) (ps := ps) (pos := pos) hc hN hi ok hv hg he hst hfi hl hte hs
  exact ⟨_, pss_one (ps_ret pt), qt ad H _ hA hT q⟩
theorem law_body {n di k1 kk : Nat} {σ0 : St} {H0 : Hp} {p1 p2 px p3 p4 p5 p6 : Pos} {x : Str} {D : Ends} {ra : Addr} {rfd : FuncData} {rps : List Str} {kr : Nat} {ad : Addr} {ns : List Int} {mo : Int} (hp : PassesOwn (model X.prog X.w) X.A X.env X.xe) (tk : Tk X E) (hc : X.calm = true)
    (G : FnOk X.prog X.w X.K X.mg X.base (L2N.CX X.prog X.w) kr ra rfd rps (spRounds T X.K)) (hr : Room kr X.A) (hg : Gl X "_law_rounds") (hm : X.mg "_law_rounds" = some (.ref ra)) (hk : PySem.W.keepIn X.K (.ref ra) = true) (hbi : Binds X.K rfd rps [])
    (h0 : X.N[0]? = some ("script" : Str)) (hv0 : Vis X.env.scope "script") (hN : X.N.Nodup) (hi : X.N[di]? = some x) (hx : Loc X.env.scope x) (hb : DSs T cv X E body f) (hn : σ0.length = n) (hdi : di < n) (hσ : σ0[0]? = some (some (.ref ad))) (hA : SqL X.K H0 ad (ns.map V.int)) (hT : LamX.Tabs T H0) (hns : ns.length ≤ 63) (hmo : mo ≤ 1000)
    (hf : ∀ c : Int, ∃ r', f ((List.replicate n Sl.un).set di (.bor [.int c, .int 0])) = .ok .nx r' ∧ r'.length = n) (hD : ∀ H, D.rt (.bl true) H)
    (hs : ∀ x, foldedSetIterable (.Call (.Name "_law_rounds" p3) [.Name "script" p4, .Constant (.int mo) kk p5] [] p6) X.env x = pure x := by intro _; rfl) (hfn : X.fn x = true ∨ X.env.scope.names.lookup x = some .local := by first | exact .inl rfl | exact .inr rfl | assumption)
    (he : starEach [.Name "script" p4, .Constant (.int mo) kk p5] X.env = (false, eval (.Name "script" p4) X.env) :: starEach [.Constant (.int mo) kk p5] X.env := by rfl) (he2 : starEach [.Constant (.int mo) kk p5] X.env = (false, eval (.Constant (.int mo) kk p5) X.env) :: starEach [] X.env := by rfl) (hpl : (backTo p6 (starEach [.Constant (.int mo) kk p5] X.env)).any (·.1) = false := by rfl) :
    ∃ t, PSs X [.For (.Name x px) (.Call (.Name "_law_rounds" p3) [.Name "script" p4, .Constant (.int mo) kk p5] [] p6) body [] pos, .Return (some (.Constant (.bool true) k1 p1)) p2] t ∧ t D σ0 H0 := by
  obtain ⟨t, pt, qt⟩ := law_core (T := T) (cv := cv) (n := n) (di := di) (σ0 := σ0) (H0 := H0) (k1 := k1) (p1 := p1) (p2 := p2) (px := px) (pos := pos) hp hc
    (pe_callS (E := fun _ => E) (pos := p6) (p := p3) G hr hg hm hk hbi (fun σ => L2N.passAt tk σ) (pa_cons (pe_var (pos := p4) h0 hv0 (by decide +kernel) (by decide +kernel)) (pa_cons (pe_int (i := mo)) pa_nil he2) he) (by decide +kernel) he hpl)
    (fun Q h => ⟨.ref ad, hσ, ad, ns, mo, rfl, ⟨hns, hmo⟩, hA, hT, h⟩) hN hi hx hb hn hdi hf hs hfn
  exact ⟨t, pt, qt D hD⟩
end
end FB
/-! What the head tells, as the walk takes it. -/
namespace FB
open PySem PySem.Spec L2
section
variable {K : PySem.W.Frag} {h : Heap} {mg : Str → Option Value} {w : World} {fa : List He.Fa} {fn : List He.DefD}
theorem to_fun {x : Str} {st : Stmt} {f : Addr} {fd : FuncData} (F : FunD K x x (defArgs st) (defBody st) (defScope st) [] [] f fd) : Fun K x x st f fd := by
  obtain ⟨oc, od, dV, kV, doc, pm, an, cdv, ct, osl, e, lk, hcd, dd, _⟩ := F.ex
  have ed : dV = .none := by
    rcases dd with ⟨_, e⟩ | ⟨e, _⟩
    · exact e
    · exact absurd rfl e
  subst ed
  exact ⟨⟨oc, od, kV, doc, pm, an, cdv, ct, osl, e, lk, hcd⟩, F.kp⟩
theorem md_fun (X : K.In h) (G : h.Ns mainGlobals mg) (c : He.SaysD fa fn K) {x : Str} {st : Stmt} {d : He.DefD} (hd : d = ⟨(x, none), x, x, defArgs st, defBody st, defScope st, [], []⟩) (h1 : d ∈ fn) (h2 : He.Fa.glo x ∈ fa) : ∃ f fd, Fun K x x st f fd ∧ mg x = some (.ref f) := by
  subst hd
  obtain ⟨fd, F⟩ := c.defs h1
  exact ⟨He.ga K x, fd, to_fun F, He.glo_ok X G (c.facts h2)⟩
theorem md_fund (X : K.In h) (G : h.Ns mainGlobals mg) (c : He.SaysD fa fn K) {x : Str} {st : Stmt} {d : He.DefD} (hd : d = ⟨(x, none), x, x, defArgs st, defBody st, defScope st, [], []⟩) (h1 : d ∈ fn) (h2 : He.Fa.glo x ∈ fa) : ∃ f fd, FunD K x x (defArgs st) (defBody st) (defScope st) [] [] f fd ∧ mg x = some (.ref f) ∧ f = He.fAd K (x, none) := by
  subst hd
  obtain ⟨fd, F⟩ := c.defs h1
  exact ⟨He.ga K x, fd, F, He.glo_ok X G (c.facts h2), rfl⟩
theorem md_exc (X : K.In h) (G : h.Ns mainGlobals mg) (c : He.SaysD fa fn K) {x : Str} (h1 : He.Fa.exc x ∈ fa) (h2 : He.Fa.glo x ∈ fa) : ExF K mg x (.ref (He.ga K x)) := by
  obtain ⟨e1, e2, e3, e4⟩ := He.exc_ok (c.facts h1)
  exact ⟨_, rfl, He.glo_ok X G (c.facts h2), e1, e2, e3, e4⟩
theorem md_free (X : K.In h) (G : h.Ns mainGlobals mg) (c : He.SaysD fa fn K) {x : Str} (h1 : He.Fa.free x ∈ fa) : mg x = none := He.free_ok X G (c.facts h1)
def exTab (K : PySem.W.Frag) : Bool := He.valsB K (He.ga K "OTHER") [("#", .str "."), (".", .str "#"), ("*", .str "o"), ("o", .str "*")]
theorem md_tab (X : K.In h) (G : h.Ns mainGlobals mg) {ts : List He.Tab} (c : He.SaysT fa fn ts w K) (ht : ts[0]? = some ((fun K => He.ga K "OTHER", ["#", ".", "*", "o"]) : He.Tab)) (h2 : He.Fa.glo "OTHER" ∈ fa) (hx : exTab K = true) : TabF K w mg := by
  obtain ⟨es, n, D⟩ := c.tab 0 ht
  refine ⟨He.ga K "OTHER", He.glo_ok X G (c.d.facts h2), ?_, ?_, ?_, ?_⟩
  · obtain ⟨u, e, r⟩ := He.valsB_ok hx (q := ("#", .str ".")) (by simp)
    exact ⟨es, n, u, D.at_, D.lit, e, r⟩
  · obtain ⟨u, e, r⟩ := He.valsB_ok hx (q := (".", .str "#")) (by simp)
    exact ⟨es, n, u, D.at_, D.lit, e, r⟩
  · obtain ⟨u, e, r⟩ := He.valsB_ok hx (q := ("*", .str "o")) (by simp)
    exact ⟨es, n, u, D.at_, D.lit, e, r⟩
  · obtain ⟨u, e, r⟩ := He.valsB_ok hx (q := ("o", .str "*")) (by simp)
    exact ⟨es, n, u, D.at_, D.lit, e, r⟩
end
end FB
/-! Where an exception is handled: walking a list, a comprehension. -/
namespace FB
open PySem PySem.Spec PyProof.Rows L2
section
variable {prog : Program} {w : World} {A : Around} {E : Value → Shared → Prop} {s : Shared}
/-- a walked list's end while an exception is handled -/
theorem list_end_hot {it l x1 : Addr} {i : Nat} {items : Array Value} {Q : Option Value → Shared → Prop} (hot : HotX.HotAt A x1 s.heap) (hne : x1 ≠ it) (hit : s.heap.IsListIter it l i) (hl : s.heap.IsList l items) (hx : items[i]? = none)
    (hQ : ∀ h', Heap.ExtBut it s.heap h' → Q none { s with heap := h' }) : wpAny (model prog w) A (pyNext (.ref it)) Q E s := by
  obtain ⟨o, ho, _, hd⟩ := id hit
  obtain ⟨ol, hol, _, nl, hdl⟩ := hl
  obtain ⟨hh, o1, vs1, h1, d1, c1⟩ := hot
  unfold pyNext
  refine wpAny_bind (wpAny_attempt (wpAny_callSpecial?_slot (name := Str.ofString "__next__") hit.typeIs slot_listiter_next (wpAny_call_entry slot_listiter_next hit.typeIs entry_listiter_next ?_ (args_listiter_next _))))
  show wpAny _ _ (field (.ref it) 0 >>= _) _ _ s
  refine wpAny_bind (wpAny_field ho hd (x := .ref l) rfl ?_)
  show wpAny _ _ (if (Value.ref l == Value.none) = true then _ else _) _ _ s
  rw [if_neg (by exact Bool.false_ne_true)]
  show wpAny _ _ (field (.ref it) 1 >>= _) _ _ s
  refine wpAny_bind (wpAny_field ho hd (x := .int i 0) rfl (show wpAny _ _ (seqItems? (.ref l) >>= _) _ _ s from wpAny_bind (wpAny_seqItems hol hdl ?_)))
  simp only [Int.toNat_natCast, hx]
  refine wpAny_bind (wpAny_rule (wpAny_bind (wpAny_setField ho hd (by simp) ?_)))
  show wpAny _ _ (newExc (.type "StopIteration") [] >>= _) _ _ _
  refine wpAny_bind ?_
  simp only [newExc, newTuple]
  refine wpAny_bind (wpAny_newObj_type ?_ (by size_fits))
  refine wpAny_bind (m := firstArgMember _ _) (wpAny_of_eq (a := Value.none) (by first | rfl | (simp only [firstArgMember]; rfl)) (wpAny_newObj_type ?_ (by size_fits)))
  have k1 : ∀ f, (s.heap.update it f).get? x1 = some o1 := fun f => by
    rw [Heap.get?_update_other _ _ (Ne.symm hne)]
    exact h1
  refine HotX.raiseNew_hot ⟨hh, o1, vs1, Heap.get?_push_of_some _ (Heap.get?_push_of_some _ (k1 _)), d1, c1⟩ (Nat.ne_of_lt (Heap.lt_size (Heap.get?_push_of_some _ (k1 _)))) (Heap.get?_push_size _ rfl) rfl (by first | (simp; done) | (simp; omega) | (simp only [Array.size_append]; simp; omega)) ?_
  refine wpAny_bind (wpAny_isInstance (T := "StopIteration") (b := true) ⟨_, Heap.get?_update_self _ (Heap.get?_push_size _ rfl) rfl, rfl⟩ isSubtype_stop ?_)
  refine wpAny_pure (hQ _ fun b o' hb e => ?_)
  have q : ∀ f, (s.heap.update it f).get? b = some o' := fun f => by
    rw [Heap.get?_update_other _ _ (Ne.symm hb)]
    exact e
  rw [Heap.get?_update_other _ _ (Nat.ne_of_gt (Heap.lt_size (Heap.get?_push_of_some _ (q _))))]
  exact Heap.get?_push_of_some _ (Heap.get?_push_of_some _ (q _))
end
open L2H
section
variable {X : Cx} {pins : List (Addr × Obj)} {σ : L2.St} {H : Hp} {s : Shared} {p : Addr × Obj}
/-- the handled exception is pinned -/
structure Pin (X : Cx) (pins : List (Addr × Obj)) (p : Addr × Obj) : Prop where
  hot : Hot1 X.A p
  mem : p ∈ X.pn ++ pins
theorem Pin.at_ (c : Pin X pins p) (I : Inv X pins σ H s) : HotX.HotAt X.A p.1 s.heap := by
  obtain ⟨hh, v1, e1, c1⟩ := c.hot
  exact ⟨hh, p.2, v1, (I.pin p c.mem).1, e1, c1⟩
theorem lst_item {a it : Addr} {tg : Expr} {i : Nat} {Ex : Value → Shared → Prop} (I : Inv X pins σ H s) (hf : FpOk X pins H it) (st : s.heap.IsListIter it a i) (hg : (Itl X.K a).go i H) :
    wpAny (model X.prog X.w) X.A (pyNext (.ref it)) (fun r s1 => ∃ u, r = some u ∧ wpAny (model X.prog X.w) X.A (letOwnedTupleGo tg (.ref it) u) (fun _ s2 => ∃ x H', Inv X pins σ H' s2 ∧ L2.RelV x u ∧ (Itl X.K a).yld i H x H' ∧ s2.heap.IsListIter it a (i + 1) ∧ H' it = none) Ex s1) Ex s := by
  obtain ⟨xs, x, hq, hx⟩ := hg
  obtain ⟨its, rv, pl, hz⟩ := I.list hq
  obtain ⟨u, hu, ru⟩ := rv.get hx
  obtain ⟨f0, f1, f2, f3, f4, f5⟩ := hf
  refine wpAny_pyNext_list_item st pl.isList (x := u) (by simpa using hu) fun h1 st1 sb => ?_
  have I1 : Inv X pins σ H { s with heap := h1 } := I.turned (t' := s.toks) (fun b o hb e => (sb.2 b hb).trans e) f0 f1 f3 f4 f5
  obtain ⟨o, eo, co, d⟩ := id st1
  exact ⟨u, rfl, go_of (s := { s with heap := h1 }) eo co d (by decide) ⟨x, H, I1, ru, ⟨rfl, fun ys hy => by rw [I.list_inj hy hq]; exact hx⟩, st1, f0⟩⟩
theorem lst_done {a it : Addr} {i : Nat} {Ex : Value → Shared → Prop} (c : Pin X pins p) (I : Inv X pins σ H s) (hf : FpOk X pins H it) (st : s.heap.IsListIter it a i) (hg : (Itl X.K a).stop i H) :
    wpAny (model X.prog X.w) X.A (pyNext (.ref it)) (fun r s1 => r = none ∧ Inv X pins σ H s1) Ex s := by
  obtain ⟨xs, hq, hx⟩ := hg
  obtain ⟨its, rv, pl, hz⟩ := I.list hq
  obtain ⟨f0, f1, f2, f3, f4, f5⟩ := hf
  have hl := rv.length
  exact list_end_hot (c.at_ I) (f5 p c.mem) st pl.isList (by simp; omega) fun h1 eb => ⟨rfl, I.turned (t' := s.toks) (fun b o hb e => eb b o hb e) f0 f1 f3 f4 f5⟩
/-- [elt for tg in l], an exception being handled -/
theorem pe_lcP {elt tg l : Expr} {scope : Scope} {own : List (Str × Nat)} {pos : Pos} {ifs : List Expr} {tl : TE} {g : TG} {tt : TT} {te : TE} (hp : p ∈ X.pn) (hot : Hot1 X.A p) (hN : X.N.Nodup) (hl : PE X l tl) (ok : BlkOk X.N X.env.scope scope own)
    (hg : ∀ (s : Shared) (H : Hp) (C : Addr) (cl : List (Str × Addr)) (fp : List Addr), PG (X.blk s H scope (compEnvC scope cl C X.env) fp) tg g)
    (ht : ∀ (s : Shared) (H : Hp) (C : Addr) (cl : List (Str × Addr)) (fp : List Addr), PTs (X.blk s H scope (compEnvC scope cl C X.env) fp) ifs tt)
    (he : ∀ (s : Shared) (H : Hp) (C : Addr) (cl : List (Str × Addr)) (fp : List Addr), PE (X.blk s H scope (compEnvC scope cl C X.env) fp) elt te) (hs : ∀ x, foldedSetIterable l X.env x = pure x := by intro _; rfl) :
    PE X (.ListComp elt [⟨tg, l, ifs, 0⟩] scope pos) (tLc (iList X.K tl) g tt te (own.map (·.2))) := by
  refine ⟨fun pins s σ H Q I h => ?_⟩
  rw [eval_ListComp]
  have hfree : ∀ y ∈ scope.names, y.2 = .free → ∃ c, X.env.cells.lookup y.1 = some c := fun y hy e => (ok.free y hy e).elim (fun k => I.ok.has _ (.inl k)) fun k => I.ok.has _ (.inr k)
  refine wpAny_comprehension_free (use := none) rfl hs (closure_ok hfree) ok.kind (fun y hy e => by rw [ok.uniq y hy, e]) (thn (hl.run pins s σ H _ I h) fun xv s1 ⟨x, H1, I1, r1, q1⟩ => ?_)
  obtain ⟨a, ex, ⟨xs, hq⟩, q⟩ := q1
  subst ex
  cases r1
  obtain ⟨its, rv, pl, hz⟩ := I1.list hq
  refine wpAny_pyIter_list pl.isList ?_
  generalize hit : s1.heap.objs.size = it
  generalize hs2 : ({ s1 with heap := s1.heap.push _ } : Shared) = s2
  have I2 : Inv X pins σ H1 s2 := by
    rw [← hs2]
    exact I1.kept (t' := s1.toks) fun b o e => Heap.get?_push_of_some _ e
  have st2 : s2.heap.IsListIter it a 0 := by
    rw [← hs2, ← hit]
    exact ⟨_, Heap.get?_push_size _ rfl, rfl, rfl⟩
  have f2 : FpOk X pins H1 it := I1.fpOk (Nat.le_of_eq hit) (I1.hok.fresh (Nat.le_of_eq hit))
  refine wpAny_newObj_type (newEnv_comp ?_) (by show 0 ≤ sizeLine; decide)
  generalize hDd : s2.heap.objs.size = Dd
  have nDd : H1 Dd = none := I2.hok.fresh (Nat.le_of_eq hDd)
  obtain ⟨W, ⟨m0, w0⟩, turn⟩ := q Dd nDd
  generalize hs3 : ({ s2 with heap := s2.heap.push { cls := .type "list", data := .seq ([] : List Value).toArray } } : Shared) = s3
  have q3 : s3.heap = s2.heap.push { cls := .type "list", data := .seq ([] : List Value).toArray } := by rw [← hs3]
  have I3 : Inv X pins σ (upd H1 Dd (.lst [])) s3 := by
    rw [← hs3]
    refine I2.laid (t' := s2.toks) (fun b o e => Heap.get?_push_of_some _ e) (Nat.le_of_eq hDd) ⟨Nat.zero_le _, [], 0, .nil, ?_⟩
    rw [← hDd]
    exact Heap.get?_push_size _ rfl
  have ltI : it < s2.heap.objs.size := by
    obtain ⟨o, eo, _⟩ := st2
    exact Heap.lt_size eo
  have fI : FpOk X pins (upd H1 Dd (.lst [])) it ∧ it < s3.heap.objs.size := by
    refine ⟨⟨?_, f2.2⟩, by rw [q3, Heap.size_push]; exact Nat.lt_succ_of_lt ltI⟩
    rw [upd_ne (by rw [← hDd]; exact Nat.ne_of_lt ltI)]
    exact f2.1
  have st3 : s3.heap.IsListIter it a 0 := st2.at fun o e => by rw [q3]; exact Heap.get?_push_of_some _ e
  have I4 := block_start (fp := [it]) I3 ok hN fun b hb => by rw [show b = it by simpa using hb]; exact fI
  have gg := hg s3 (upd H1 Dd (.lst [])) s3.heap.objs.size (cellsFrom (s3.heap.objs.size + 1) scope.names (cloFrom X.env.cells scope.names [])) [it]
  have ge := he s3 (upd H1 Dd (.lst [])) s3.heap.objs.size (cellsFrom (s3.heap.objs.size + 1) scope.names (cloFrom X.env.cells scope.names [])) [it]
  have gt := ht s3 (upd H1 Dd (.lst [])) s3.heap.objs.size (cellsFrom (s3.heap.objs.size + 1) scope.names (cloFrom X.env.cells scope.names [])) [it]
  have P3 := I3.pin p (List.mem_append_left _ hp)
  show codeAny _ _ (.compStart (.ListComp elt [⟨tg, l, ifs, 0⟩] scope pos) 0 (.ref it) (.ref Dd) (compEnvC scope (cellsFrom (s3.heap.objs.size + 1) scope.names (cloFrom X.env.cells scope.names [])) s3.heap.objs.size X.env)) (compPost (model X.prog X.w) X.A X.xe none _ (.ref Dd) s3.heap.objs.size) { s3 with heap := pushCells (s3.heap.push { cls := .type "dict", data := .dict #[] }) scope.names }
  generalize hce : compEnvC scope (cellsFrom (s3.heap.objs.size + 1) scope.names (cloFrom X.env.cells scope.names [])) s3.heap.objs.size X.env = ce at I4 gg gt ge ⊢
  have cL : ce.locals = s3.heap.objs.size := by subst hce; rfl
  have n3 : (upd H1 Dd (.lst [])) it = none := fI.1.1
  generalize hH3 : upd H1 Dd (.lst []) = H3 at I3 I4 gg gt ge w0 n3 fI P3
  generalize hs4 : ({ s3 with heap := pushCells (s3.heap.push { cls := .type "dict", data := .dict #[] }) scope.names } : Shared) = s4 at I4 ⊢
  have kp4 : ∀ b o, s3.heap.get? b = some o → s4.heap.get? b = some o := fun b o e => by
    rw [← hs4]
    exact pushCells_keeps _ _ _ _ (Heap.get?_push_of_some _ e)
  have st4 : s4.heap.IsListIter it a 0 := st3.at fun o e => kp4 _ _ e
  -- the exception is pinned in the block
  have I4p : Inv (X.blk s3 H3 scope ce [it]) [p] (wipe σ (own.map (·.2))) H3 s4 := I4.pins_of fun z hz => by
    rw [show z = p by simpa using hz]
    refine ⟨kp4 _ _ P3.1, P3.2.1, ?_, ?_, P3.2.2.2.2⟩
    · show p.1 ≠ ce.locals
      rw [cL]
      exact Nat.ne_of_lt (Heap.lt_size P3.1)
    · intro hm
      have hm : p.1 ∈ frs X.stack := hm
      exact (List.mem_cons.mp (I3.stkSub p.1 hm)).elim P3.2.2.1 P3.2.2.2.1
  have pinB : Pin (X.blk s3 H3 scope ce [it]) [p] p := ⟨hot, by simp⟩
  have stat : ∀ {σ' : L2.St} {H' : Hp} {s' : Shared}, Inv (X.blk s3 H3 scope ce [it]) [p] σ' H' s' → H' it = none → FpOk (X.blk s3 H3 scope ce [it]) [p] H' it := fun {σ' H' s'} J hn =>
    ⟨hn, (J.ok.exf it (by show it ∈ [it]; simp)).1, J.ok.exfs it (by show it ∈ [it]; simp), .inl (by show it ∈ [it]; simp), fun y c e => (J.ok.exf it (by show it ∈ [it]; simp)).2 y c e, fun z hz => by
      rw [show z = p by simpa using (show z ∈ ([] : List (Addr × Obj)) ++ [p] from hz)]
      exact fI.1.2.2.2.2.2 p (List.mem_append_left _ hp)⟩
  have loop : codeAny (model X.prog X.w) X.A (.compLoop (.ListComp elt [⟨tg, l, ifs, 0⟩] scope pos) 0 (.ref it) (.ref Dd) ce) (compPost (model X.prog X.w) X.A X.xe none (EP X pins σ Q) (.ref Dd) s3.heap.objs.size) s4 := by
    refine compLoop_any (fun n s' => ∃ i H', Inv (X.blk s3 H3 scope ce [it]) [p] (wipe σ (own.map (·.2))) H' s' ∧ s'.heap.IsListIter it a i ∧ H' it = none ∧ W i n H') ?_ m0 ⟨0, H3, I4p, st4, n3, w0⟩
    rintro n s5 ⟨i, H5, I5, st5, n5, w5⟩
    rcases turn i n H5 w5 with ⟨stop, qq⟩ | ⟨go, Nx, hNx, step⟩
    · refine thnF (lst_done (X := X.blk s3 H3 scope ce [it]) (Ex := fun _ _ => False) pinB I5 (stat I5 n5) st5 stop) fun r s6 ⟨hr, I6⟩ => ?_
      subst hr
      have I7 : Inv X pins σ H5 s6 := I3.call' (ch := [it]) I6.os I6.base I6.hok I6.bare fun b hb => by
        rw [show b = it by simpa using hb]
        exact ⟨fI.1.2.2.2.1, fI.1.2.1, fI.1.2.2.2.2.1, fI.1.2.2.2.2.2⟩
      have nC : H5 s3.heap.objs.size = none := by
        have z : H5 ce.locals = none := I6.free
        rwa [cL] at z
      obtain ⟨m, hn, _⟩ := I6.loc
      have hn : s6.heap.Ns ce.locals m := hn
      rw [cL] at hn
      refine ⟨m, hn, fun h9 sb => ?_⟩
      obtain ⟨g0, g1, g2, g3, g4, g5⟩ := I3.fpOk (Nat.le_refl _) nC
      exact ⟨.ref Dd, H5, I7.turned (t' := s6.toks) (fun b o hb e => (sb.2 b hb).trans e) g0 g1 g3 g4 g5, rfl, qq⟩
    · refine thnF (lst_item (X := X.blk s3 H3 scope ce [it]) (Ex := fun _ _ => False) (tg := tg) I5 (stat I5 n5) st5 go) fun r s6 ⟨u, hr, h6⟩ => ?_
      subst hr
      refine thnF h6 fun _ s7 ⟨x, H7, I7, r7, y7, st7, n7⟩ => ?_
      have I7p := I7.pinned (fp := [it]) (fun b hb => by rw [show b = it by simpa using hb]; exact stat I7 n7) fun b hb => by
        rw [show b = it by simpa using hb]
        obtain ⟨o, eo, co, d⟩ := st7
        exact ⟨o, eo, fun v z => by rw [d] at z; cases z⟩
      refine thnF (gg.run _ s7 _ H7 x u _ I7p r7 (step x H7 y7)) fun _ s8 ⟨σ8, H8, I8, hw8, q8⟩ => ?_
      refine thnF (gt.run _ s8 σ8 H8 _ I8 q8) fun b s9 ⟨H9, I9, q9⟩ => ?_
      have fin : ∀ {s' : Shared} {H' : Hp}, Inv (X.blk s3 H3 scope ce [it]) ([p] ++ pinsAt [it] s7.heap) σ8 H' s' → Nx H' → ∃ m, m < n ∧ ∃ i H', Inv (X.blk s3 H3 scope ce [it]) [p] (wipe σ (own.map (·.2))) H' s' ∧ s'.heap.IsListIter it a i ∧ H' it = none ∧ W i m H' := fun {s' H'} J nx => by
        obtain ⟨m', hm, w'⟩ := hNx H' nx
        have pin' : ∀ o, s7.heap.get? it = some o → s'.heap.get? it = some o ∧ H' it = none := fun o e =>
          let z := J.pin (it, o) (List.mem_append_right _ (List.mem_append_right _ (mem_pinsAt (by simp) e)))
          ⟨z.1, z.2.1⟩
        have hl8 : (wipe σ (own.map (·.2))).length = σ8.length := by rw [← hw8, wipe_length]
        refine ⟨m', hm, i + 1, H', (J.unpinned (pins := [p])).weak hl8 (fun j v e => ?_), st7.at fun o e => (pin' o e).1, ?_, w'⟩
        · rw [← hw8] at e
          exact (wipe_some e).1
        · obtain ⟨o, eo, _⟩ := st7
          exact (pin' o eo).2
      cases b with
      | false =>
        simp only [Bool.false_eq_true, if_false] at q9 ⊢
        exact fin I9 q9
      | true =>
        simp only [if_true] at q9 ⊢
        refine thnF (ge.run _ s9 σ8 H9 _ I9 q9) fun z s10 ⟨yv, H10, I10, r10, acc, hD10, hz10, nx⟩ => ?_
        exact app_ok (X := X.blk s3 H3 scope ce [it]) I10 hD10 hz10 r10 fun s11 I11 => fin I11 nx
  exact codeAny_compStart_list loop (wpAny_pyIter_listiter st4 loop)
theorem walks_hot {prog : Program} {w : World} {A : Around} {x1 : Addr} {o1 : Obj} {vs1 : Array Value} (hh : A.handled = some (.ref x1)) (d1 : o1.data = .fields vs1) (c1 : vs1[2]? = some .none) (I ax : Addr) (hne : ax ≠ I) (hn1 : x1 ≠ I) (items : Array Value) :
    PySem.Walks prog w A I [I, ax, x1] [I] items.size (fun i v => items[i]? = some v) (fun i h => h.IsListIter I ax i ∧ h.IsList ax items ∧ h.get? x1 = some o1) where
  sub := fun b hb => by simp at hb; simp [hb]
  frame := fun _ _ _ st hk => ⟨st.1.at fun o e => hk I (by simp) o e, st.2.1.at fun o e => hk ax (by simp) o e, hk x1 (by simp) _ st.2.2⟩
  item := fun i s Q E hi st hQ => by
    refine wpAny_pyNext_list_item st.1 st.2.1 (x := items[i]) (by simp [hi]) fun h' hit' hs' => ?_
    exact hQ _ h' s.toks (by simp [hi]) ⟨hit', st.2.1.extBut hs'.extBut hne, hs'.extBut x1 _ hn1 st.2.2⟩ fun b o hb e => hs'.extBut b o (fun z => hb (by simp [z])) e
  done := fun s Q E st hQ => list_end_hot ⟨hh, o1, vs1, st.2.2, d1, c1⟩ hn1 st.1 st.2.1 (by simp) fun h' he' => hQ h' s.toks fun b o hb e => he' b o (fun z => hb (by simp [z])) e
  self := fun _ _ _ _ st hQ => wpAny_pyIter_listiter st.1 hQ
theorem sum_hot {prog : Program} {w : World} {A : Around} {E : Value → Shared → Prop} {s : Shared} {l x1 : Addr} {its : List Value} {ns : List Int} {Q : Value → Shared → Prop} (hot : HotX.HotAt A x1 s.heap) (hl : s.heap.IsList l its.toArray) (hi : IntsAre its ns)
    (h : ∀ h' tk t', (∀ b o, s.heap.get? b = some o → h'.get? b = some o) → Q (.int ns.sum t') { s with heap := h', toks := tk }) : wpAny (model prog w) A (call (.builtin "sum") [.ref l]) Q E s := by
  obtain ⟨hh, o1, vs1, h1, d1, c1⟩ := hot
  obtain ⟨xs, e⟩ := hi.allInts.items
  have hn : numsOf (intItems xs).toList = ns := by rw [← e]; exact hi.numsOf
  rw [nums_intItems] at hn
  rw [e] at hl
  have lt1 := Heap.lt_size h1
  refine call_sum_walkG (iter_intList hl fun s₂ e2 st hfp hlI => ?_)
  subst e2
  refine ⟨_, [s.heap.objs.size, l, x1], _, _, _, _, numAt xs, rfl, walks_hot (A := A.in1) hh d1 c1 _ l hlI (Nat.ne_of_lt lt1) (intItems xs), ⟨st.1, st.2, Heap.get?_push_of_some _ h1⟩, fun b hb => ?_, (fun _ _ => intItems_at), fun h' tk t' hk => ?_⟩
  · rcases List.mem_cons.mp hb with z | z
    · exact hfp b (by rw [z]; simp)
    · rcases List.mem_cons.mp z with z | z
      · exact hfp b (by rw [z]; simp)
      · rw [show b = x1 by simpa using z]
        show x1 < (s.heap.push _).objs.size
        rw [Heap.size_push]
        exact Nat.lt_succ_of_lt lt1
  · have g := h h' tk t' (old_kept hk)
    have e3 : preSum (numAt xs) (intItems xs).size = ns.sum := by
      have : (intItems xs).size = xs.size := by simp [intItems]
      rw [this, preSum_eq, List.take_of_length_le (by simp), hn]
    rw [e3]
    exact g
theorem cr_sumP (hp : p ∈ X.pn) (hot : Hot1 X.A p) : CallR X (.builtin "sum") (rSum X.K) := by
  intro pins s σ H vs us Q I r h
  obtain ⟨a, ns, rfl, hs, q⟩ := h
  obtain ⟨its, rv, hl, _⟩ := I.list hs
  rw [Vals.ref1 r]
  have pin : Pin X pins p := ⟨hot, List.mem_append_left _ hp⟩
  exact sum_hot (pin.at_ I) hl.isList rv.ints fun h' tk t' hk => ⟨.int _, H, I.kept hk, ⟨_, rfl⟩, q⟩
end
end FB
/-! The data layer while an exception is handled. -/
namespace FB
open PySem PySem.Spec PyProof.Rows L2 L2H
section
variable {T : List (Addr × Str)} {cv : Nat → Value} {X : Cx} {E : XK} {e a b c tg iter : Expr} {es : List Expr} {pos : Pos} {fa fb fc : M D} {fs fi : M (List D)} {tA : M Bool} {p : Addr × Obj}
theorem de_lcP {elt : Expr} {ifs : List Expr} {scope : Scope} {own : List (Str × Nat)} {g : Tg} {tt : M Bool} {te : M D} (hp : p ∈ X.pn) (hot : Hot1 X.A p) (hN : X.N.Nodup) (hl : DE T cv X E iter fa) (ok : BlkOk X.N X.env.scope scope own)
    (hg : ∀ (s : Shared) (H : Hp) (C : Addr) (cl : List (Str × Addr)) (fp : List Addr), DG T (X.blk s H scope (compEnvC scope cl C X.env) fp) tg g (own.map (·.2)))
    (ht : ∀ (s : Shared) (H : Hp) (C : Addr) (cl : List (Str × Addr)) (fp : List Addr), DTs T cv (X.blk s H scope (compEnvC scope cl C X.env) fp) E0 ifs tt)
    (he : ∀ (s : Shared) (H : Hp) (C : Addr) (cl : List (Str × Addr)) (fp : List Addr), DE T cv (X.blk s H scope (compEnvC scope cl C X.env) fp) E0 elt te) (hs : ∀ x, foldedSetIterable iter X.env x = pure x := by intro _; rfl) :
    DE T cv X E (.ListComp elt [⟨tg, iter, ifs, 0⟩] scope pos) (eLc (iL fa) g tt te (own.map (·.2))) := by
  obtain ⟨tl, pl, ql⟩ := hl
  refine ⟨_, pe_lcP (g := gD T X.K g (own.map (·.2))) (tt := tDT T cv X.K E0 tt) (te := tD T cv X.K E0 te) hp hot hN pl ok (fun s H C cl fp => (hg s H C cl fp).pg) (fun s H C cl fp => (ht s H C cl fp).pts) (fun s H C cl fp => (he s H C cl fp).pe) hs, fun B r σ F H Q rep h => ?_⟩
  have h : PoE T cv X.K B σ F E Q ((iL fa r).andThen fun xs r1 => if (((own.map (·.2)).all fun i => notOwn (r1[i]?)) = true ∧ xs.length ≤ lim) then (match lcGo g tt te (own.map (·.2)) xs [] (wipeE (own.map (·.2)) r1) with
    | .ok ys r2 => .ok (.lst ys) (backE (own.map (·.2)) r1 r2)
    | _ => .bad) else .bad) := h
  unfold iL at h
  cases ef : fa r with
  | bad =>
    rw [ef] at h
    exact h.elim
  | exc c0 r1 =>
    rw [ef] at h
    refine ql B r σ F H _ rep ?_
    rw [ef]
    exact h
  | ok d r1 =>
    rw [ef] at h
    refine ql B r σ F H _ rep ?_
    rw [ef]
    intro F1 H1 v s1 rep1 dv
    cases dv with
    | lst hF dvs =>
      rename_i ad vs xs
      refine ⟨ad, rfl, ⟨_, SqL.of (rep1.ext.sub _ _ hF)⟩, fun Dl hD => ?_⟩
      have h1 : PoE T cv X.K B σ F1 E Q (if (((own.map (·.2)).all fun i => notOwn (r1[i]?)) = true ∧ xs.length ≤ lim) then (match lcGo g tt te (own.map (·.2)) xs [] (wipeE (own.map (·.2)) r1) with
        | .ok ys r2 => .ok (.lst ys) (backE (own.map (·.2)) r1 r2)
        | _ => .bad) else .bad) := Po.from s1 h
      split at h1
      · rename_i hcond
        cases run : lcGo g tt te (own.map (·.2)) xs [] (wipeE (own.map (·.2)) r1) with
        | ok ys r2 =>
          rw [run] at h1
          exact lc_read rep1 (wk_list hF dvs) hcond.1 hcond.2 run h1 Dl hD
        | exc c r2 =>
          rw [run] at h1
          exact h1.elim
        | bad =>
          rw [run] at h1
          exact h1.elim
      · exact h1.elim
    | _ => exact h.elim
/-- isinstance(e, C), e the handled exception -/
theorem call_isP {D : Addr} (hp : p ∈ X.pn) (C : ExcC X.K D) (hz : p.2.cls = .ref D ∧ p.2.dict = none) (hf : ∃ vs, p.2.data = .fields vs) : CallR X (.builtin "isinstance") (rIsE X.K D p.1) := by
  intro pins s σ H xs us Q I r h
  obtain ⟨c, cv, b, rfl, hcv, e, q⟩ := h
  cases r with
  | cons rx rr =>
    cases rr with
    | cons rt rr =>
      cases rr
      cases rx
      have ec := hcv _ rt
      subst ec
      have hget := (I.pin p (List.mem_append_left _ hp)).1
      obtain ⟨pa, oe⟩ := p
      obtain ⟨vs, hv⟩ := hf
      have J : PySem.W.InstAt s.heap pa oe D none := by
        obtain ⟨oc, od, oda, osl⟩ := oe
        obtain ⟨h1, h2⟩ := hz
        dsimp only at h1 h2 hv
        subst h1 h2 hv
        exact ⟨hget, rfl, rfl, trivial⟩
      exact PySem.W.kia_one (PySem.W.handS_kitx_exc C.hg C.hk C.hs C.hd C.ha C.hn C.ht C.hm) I.kIn J e (fun z => nomatch z) fun tk => ⟨.bl b, H, I.kept (t' := tk) fun _ _ z => z, rfl, q⟩
theorem de_isP {D : Addr} {x : Str} {u : Value} {v : V} {bb : Bool} {p1 px : Pos} (hp : p ∈ X.pn) (C : ExcC X.K D) (hz : p.2.cls = .ref D ∧ p.2.dict = none) (hf : ∃ vs, p.2.data = .fields vs) (hg : Gl X "isinstance") (hm : X.mg "isinstance" = none)
    (pc : PE X (.Name x px) (tC v)) (hcv : ∀ z, L2.RelV v z → z = u) (hk : PySem.W.kitOne X.K (.ref D) u = some bb) (ha : DE T cv X E a fa)
    (he : starEach [a, .Name x px] X.env = (false, eval a X.env) :: starEach [.Name x px] X.env := by rfl) (he2 : starEach [.Name x px] X.env = (false, eval (.Name x px) X.env) :: starEach [] X.env := by rfl) (hpl : (backTo pos (starEach [.Name x px] X.env)).any (·.1) = false := by rfl) :
    DE T cv X E (.Call (.Name "isinstance" p1) [a, .Name x px] [] pos) (e1 (isP p.1 bb) fa) := by
  obtain ⟨ta, pa, qa⟩ := ha
  refine ⟨_, pe_callB (call_isP hp C hz hf) hg hm PyProof.Rows.boot_isinstance (pa_cons pa (pa_cons pc pa_nil he2) he) (by decide +kernel) (by decide +kernel) he hpl, fun B r σ F H Q rep h => ?_⟩
  refine qa B r σ F H _ rep (Po.bind h fun d r1 F1 H1 w er s1 rep1 dv h1 => ?_)
  obtain ⟨z, ez, q⟩ := h1.lift
  unfold isP at ez
  split at ez
  · split at ez
    · rename_i c0 hc
      cases ez
      cases dv
      subst hc
      exact ⟨v, u, bb, rfl, hcv, hk, q F1 H1 _ (Same.refl _) rep1 (.bl bb)⟩
    · cases ez
  · cases ez
theorem go_get : ∀ (xs : List D) (j : Nat), (D.py.go xs)[j]? = (xs[j]?).map D.py
  | [], j => by simp [D.py.go]
  | x :: xs, 0 => by simp [D.py.go]
  | x :: xs, j + 1 => by
    simp only [D.py.go, List.getElem?_cons_succ]
    exact go_get xs j
theorem depL_mem {xs : List D} {x : D} {n : Nat} (h : D.depL xs ≤ n) (hx : x ∈ xs) : x.dep ≤ n := by
  induction xs with
  | nil => cases hx
  | cons y ys ih =>
    simp only [D.depL] at h
    rcases List.mem_cons.mp hx with z | z
    · rw [z]
      omega
    · exact ih (by omega) z
theorem p_index {K : PySem.W.Frag} {B : Bs} {r : En} {σ : St} {F H : Hp} {x y : V} {d e z : D} {Q : VK} (rep : Rep T K B r σ F H) (dx : Dv K F x d) (dy : Dv K F y e) (ez : opIndex d e = some z) (q : ∀ F' H' v, Same F F' → Rep T K B r σ F' H' → Dv K F' v z → Q v H') : rIndexD K x [y] H Q := by
  unfold opIndex mIndex at ez
  split at ez
  · rename_i xs d1 e1
    cases e1
    split at ez
    · rename_i hd
      cases dx with
      | lst hF dvs =>
        cases ej : xs.findIdx? (fun z => D.eqv z e) with
        | none =>
          rw [ej] at ez
          cases ez
        | some j =>
          rw [ej] at ez
          cases ez
          obtain ⟨hjl, hj1, hj2⟩ := List.findIdx?_eq_some_iff_getElem.mp ej
          have dl : D.depL xs ≤ 60 := by
            have := hd.2
            simp only [D.dep] at this
            omega
          have dxs : Dv K F _ (.lst xs) := .lst hF dvs
          refine ⟨_, y, e.py, D.py.go xs, j, (xs[j]).py, rfl, rfl, dxs.dp rep.ext.sub (by omega), dy.dp rep.ext.sub (by omega), dxs.shaped hd.2, dy.shaped hd.1, ?_, ?_, fun m z' hm hz' => ?_, q F H _ (Same.refl _) rep (.int _)⟩
          · rw [go_get, List.getElem?_eq_getElem hjl]
            rfl
          · rw [eqv_py _ _ (depL_mem dl (List.getElem_mem hjl)) hd.1]
            exact hj1
          · rw [go_get, List.getElem?_eq_getElem (by omega)] at hz'
            cases hz'
            have hm2 : m < xs.length := by omega
            rw [eqv_py _ _ (depL_mem dl (List.getElem_mem hm2)) hd.1]
            have := hj2 m hm
            simpa using this
    · cases ez
  · cases ez
theorem de_index {o : Expr} {fo : M D} {apos cpos : Pos} (hu : X.A.units + 65 < cLine) (ho : DE T cv X E o fo) (ha : DE T cv X E a fa)
    (hbase : attributeBase o "index" X.env (eval o X.env) = eval o X.env := by rfl)
    (hfew : ((backTo cpos (starEach [a] X.env)).all (fun x => !x.1) && (backToKw cpos (keywordEach [] X.env)).all (fun x => x.1.isSome) && decide ([a].length + ([] : List Keyword).length + (if ([] : List Keyword).isEmpty then 0 else 1) < 30)) = true := by rfl)
    (hline : (apos.endLine == cpos.line) = true := by rfl) (hs : starEach [a] X.env = (false, eval a X.env) :: starEach [] X.env := by rfl) (hplain : (backTo cpos (starEach [] X.env)).any (·.1) = false := by rfl) :
    DE T cv X E (.Call (.Attribute o "index" apos) [a] [] cpos) (eIdx fo fa) := by
  obtain ⟨to, po, qo⟩ := ho
  obtain ⟨ta, pa, qa⟩ := ha
  refine ⟨_, pe_bm PySem.F.plainAttrs_list PySem.F.slot_list_index PySem.F.type_list_index (mt_indexD hu) po (pa_cons pa pa_nil hs) hbase hfew hline hs hplain, fun B r σ F H Q rep h => ?_⟩
  refine qo B r σ F H _ rep (Po.bind h fun d r1 F1 H1 x er s1 rep1 dx h1 => ?_)
  cases d with
  | lst xs =>
    have dx0 := dx
    cases dx with
    | lst hF dvs =>
      refine ⟨.inl ⟨rfl, _, SqL.of (rep1.ext.sub _ _ hF)⟩, ?_⟩
      refine qa B r1 σ F1 H1 _ rep1 (Po.bind h1 fun e r2 F2 H2 y er2 s2 rep2 dy h2 => ?_)
      obtain ⟨z, ez, q⟩ := h2.lift
      exact p_index rep2 (dx0.mono s2) dy ez q
  | _ => exact h1.elim
end
end FB
/-! A def called while an exception is handled; a lambda handed to a def that calls it. -/
namespace FB
open PySem PySem.Spec PyProof.Rows L2 L2H LamX
/-- the callee's run, the handled exception known -/
theorem run_P {CXt : CXT} {P : Program} {w : World} {K : PySem.W.Frag} {mg : Str → Option Value} {base : Heap} {k : Nat} {f : Addr} {name qual : Str} {params : Arguments} {body : List Stmt} {scope : Scope} {dV kV doc pm cdv ct oc : Value} {an od : Option Addr} {osl : Array (Option Value)} {N ps : List Str}
    (lk : K.lookup f = some ⟨oc, od, .func (PySem.W.fnOf name qual params body scope dV kV doc pm an cdv ct), osl⟩) (hcd : PySem.W.codeIn K cdv qual = true) (S : FnScope N ps scope) {A : Around} {outer : List Env} {s : Shared} {H : Hp} {args : Args} {us : List Value} {vs : List V} {Q : VK} {E : XK} {p : Addr × Obj}
    (hr : RoomH (k + 1) A) (hpin : PinOk outer H s p) (e0 : Env0 P w K mg base A outer s H) (hb : BindsTo s (PySem.W.fnOf name qual params body scope dV kV doc pm an cdv ct) args (ps.zip us)) (r : Vals vs us) (hl : vs.length = ps.length)
    (hbody : RoomH k (A.deeper (envOfC qual scope s.heap.objs.size f cdv)) → ∃ t, PSs (cxH CXt P w K mg base N qual scope f cdv A outer s H E p) body t ∧ t { nx := fun _ H' => Q .non H', rt := Q } (L2.start N vs) H) :
    codeAny (model P w) A (.call (.ref f) args) (CR CXt outer P w H s Q E) s := by
  have KX : K.In s.heap := e0.mod.kin.keeps fun b o e => (e0.bs b o e).1
  have nl : s.heap.NoLimit := e0.mod.nolimit.keeps fun b o e => (e0.bs b o e).1
  have kinds : ∀ y ∈ ps.zip us, scope.names.lookup y.1 = some .local ∨ (scope.names.lookup y.1 = some .cell ∧ ((cellsFrom (s.heap.objs.size + 1) scope.names []).lookup y.1).isSome = true) := fun y hy =>
    (S.par y.1 (List.of_mem_zip (show (y.1, y.2) ∈ ps.zip us from hy)).1).elim (fun z => .inl z) fun z => .inr ⟨z, PySem.W.cellsFrom_some _ _ _ (.inl z)⟩
  refine codeAny_call_function hr.depth (KX _ _ lk) rfl S.co S.gen rfl (PySem.W.codeRec_of KX hcd) (hb _ _ _ _ (wpAny_newFunctionEnv_cells S.kind kinds fun env he s1 x => ?_))
  subst he
  refine ⟨nl.keeps x.toInCall.keep, codeAny_func ?_⟩
  obtain ⟨t, ht, hq⟩ := hbody (hr.deeper _)
  have J0 : Inv (cxH CXt P w K mg base N qual scope f cdv A outer s H E p) [] (L2.start N vs) H s1 := inv_startH S hpin e0 hl r x
  refine wpAny_mono (ht.run [] s1 (L2.start N vs) H _ J0 hq) (fun fl s' hs => ?_) fun e s' hs => hs
  cases fl with
  | ret u =>
    obtain ⟨v, σ', H', J, rv, q⟩ := hs
    exact ⟨v, H', J.os, J.bare, J.base, J.hok, rv, q⟩
  | next =>
    obtain ⟨σ', H', J, q⟩ := hs
    exact ⟨V.non, H', J.os, J.bare, J.base, J.hok, rfl, q⟩
  | brk =>
    obtain ⟨_, _, _, q⟩ := hs
    exact False.elim q
  | cont =>
    obtain ⟨_, _, _, q⟩ := hs
    exact False.elim q
section
variable {X : Cx}
/-- x(e, ..), an exception being handled: what is wanted behind it, told of the very state -/
theorem pe_callP {p : Addr × Obj} {k : Nat} {f : Addr} {x : Str} {params : Arguments} {body : List Stmt} {scope : Scope} {dV kV doc pm cdv ct oc : Value} {an od : Option Addr} {osl : Array (Option Value)} {N ps : List Str} {e : Expr} {es : List Expr} {t : TA} {sp : List V → Hp → VK → Prop} {q pos : Pos}
    (lk : X.K.lookup f = some ⟨oc, od, .func (PySem.W.fnOf x x params body scope dV kV doc pm an cdv ct), osl⟩) (hcd : PySem.W.codeIn X.K cdv x = true) (S : FnScope N ps scope) (hr : RoomH (k + 1) X.A) (hot : Hot1 X.A p) (hp : p ∈ X.pn) (hg : Gl X x) (hm : X.mg x = some (.ref f)) (hk : PySem.W.keepIn X.K (.ref f) = true)
    (hb : L2.Binds X.K (PySem.W.fnOf x x params body scope dV kV doc pm an cdv ct) ps []) (ha : PA X (e :: es) t) (len : ∀ vs H Q, sp vs H Q → vs.length = ps.length)
    (hbody : ∀ (s : Shared) (H : Hp) (vs : List V) (Q : VK), RoomH k (X.A.deeper (envOfC x scope s.heap.objs.size f cdv)) → sp vs H Q → ∃ t, PSs (cxH CX0 X.prog X.w X.K X.mg X.base N x scope f cdv X.A X.stack s H E0 p) body t ∧ t { nx := fun _ H' => Q .non H', rt := Q } (L2.start N vs) H)
    (hdb : (x == ("__debug__" : Str)) = false := by decide) (he : starEach (e :: es) X.env = (false, eval e X.env) :: starEach es X.env := by rfl) (hpl : (backTo pos (starEach es X.env)).any (·.1) = false := by rfl) :
    PE X (.Call (.Name x q) (e :: es) [] pos) (fun σ H Q => t σ H fun vs H1 => sp vs H1 Q) := by
  refine ⟨fun pins s σ H Q I h => ?_⟩
  refine wpAny_Call_Name_kw (ld_glob I hg hm ?_ hdb)
  refine PySem.W.callWith_K (h₀ := X.base) I.ok.mod.kin hk (thn (ha.run pos pins s σ H _ I h) fun us s1 ⟨vs, H1, I1, r, z⟩ => ⟨I1.kIn, ?_⟩) he hpl
  have hl : us.length = ps.length := by rw [← r.length]; exact len _ _ _ z
  have b := hb s1 us I1.kIn (by rw [List.append_nil]; exact hl)
  rw [List.append_nil] at b
  have P1 := I1.pin p (List.mem_append_left _ hp)
  have hpin : PinOk X.stack H1 s1 p := ⟨P1.1, P1.2.1, fun hm => (List.mem_cons.mp (I1.stkSub p.1 hm)).elim P1.2.2.1 P1.2.2.2.1, P1.2.2.2.2⟩
  refine wpAny_call (codeAny_mono (run_P (Q := Q) (E := E0) lk hcd S hr hpin I1.env0 b r (by rw [r.length]; exact hl) fun hr2 => hbody s1 H1 vs Q hr2 z) fun r2 s2 hq => ?_)
  cases r2 with
  | error e => exact (show False from hq).elim
  | ok fl =>
    cases fl with
    | ret u => exact I1.after hq
    | next => exact False.elim hq
    | brk => exact False.elim hq
    | cont => exact False.elim hq
/-- the context of a lambda's body, what it lets out has no context of its own -/
def lamN (X : Cx) (A : Around) (outer : List Env) (s : Shared) (H : Hp) (E : XK) (scope : Scope) (f c' : Addr) : Cx :=
  (lamCx X A outer s H E scope f c').wish fun e s' => wpAny (model X.prog X.w) (A.deeper (lamEnv X scope s.heap.objs.size f c')) (leaving (lamEnv X scope s.heap.objs.size f c') e) (fun _ s'' => L2N.CX X.prog X.w outer H s E e s'') (fun e' s'' => L2N.CX X.prog X.w outer H s E e' s'') s'
theorem tk_lamN {A : Around} {outer : List Env} {s : Shared} {H : Hp} {E : XK} {scope : Scope} {f c' : Addr} : Tk (lamN X A outer s H E scope f c') E := L2N.takes_of rfl rfl rfl rfl
/-- x(), in the def that got the lambda -/
theorem pe_actN {pins : List (Addr × Obj)} {σ : L2.St} {H : Hp} {s : Shared} {CXg : CXT} {Eg : XK} {Ng : List Str} {qg : Str} {sg : Scope} {g f c' : Addr} {cdg pm ctv : Value} {params : Arguments} {body : Expr} {scope : Scope} {k i : Nat} {a : Str} {pn : List (Addr × Obj)} {xe : Value → Shared → Prop} {W : WX} {E : XK} {tb : TE} {p1 p2 : Pos}
    (I : Inv X pins σ H s) (L : LamS X.env.scope scope) (hf : s.heap.get? f = some (PySem.W.kla_obj "<lambda>" (X.env.qual ++ "<lambda>") params body scope (cloFrom X.env.cells scope.names []) pm c' ctv)) (hfn : H f = none) (hfr : f ∉ frs X.stack)
    (hbind : bindArgs (PySem.W.kla_fn "<lambda>" (X.env.qual ++ "<lambda>") params body scope (cloFrom X.env.cells scope.names []) pm (.ref c') ctv) ⟨[], []⟩ = pure [])
    (tk : L2N.Takes ((cxOf CXg X.prog X.w X.K X.mg X.base Ng qg sg g cdg X.A X.stack s H Eg).tr pn xe) W) (hW : ∀ cls d σ' H', E cls d H' → W cls d σ' H') (hr : Room (k + 1) (X.A.deeper (envOfC qg sg s.heap.objs.size g cdg)))
    (hbody : ∀ (A : Around) (outer : List Env) (s : Shared) (H : Hp), Room k (A.deeper (lamEnv X scope s.heap.objs.size f c')) → PE (lamN X A outer s H E scope f c') body tb)
    (hN : Ng[i]? = some a) (hv : Vis sg a) (hd : (a == ("__debug__" : Str)) = false) (hcd : (a == ("__classdict__" : Str)) = false) :
    PE ((cxOf CXg X.prog X.w X.K X.mg X.base Ng qg sg g cdg X.A X.stack s H Eg).tr pn xe) (.Call (.Name a p1) [] [] p2) (fun σZ HZ Q => σZ[i]? = some (some (.ref f)) ∧ HZ c' = some (CodeO c' (X.env.qual ++ "<lambda>")) ∧ tb σ HZ Q) := by
  refine ⟨fun pinsZ sZ σZ HZ Q IZ ⟨hs, hc, ht⟩ => ?_⟩
  refine wpAny_Call_Name_kw (thn ((pe_var (pos := p1) (i := i) hN hv hd hcd).run pinsZ sZ σZ HZ (fun v H1 => v = .ref f ∧ H1 = HZ) IZ ⟨.ref f, hs, rfl, rfl⟩) fun u s1 ⟨v, H1, I1, r1, ev, eH⟩ => ?_)
  subst ev
  rw [eH] at I1
  obtain rfl : u = Value.ref f := r1
  have of1 := I1.base.keep f _ hf hfn hfr (fun z => nomatch (show f ∈ ([] : List Addr) from z))
  refine PySem.W.callWith_F0 ⟨_, _, _, _, of1⟩ ?_
  have un : Un (frs X.stack) [] H HZ s.heap s1.heap := I1.base
  obtain ⟨⟨oc, vs, t, hoc, hdc, hvc⟩, _, _⟩ := I1.hok c' _ hc
  have rc : codeAny (model X.prog X.w) (X.A.deeper (envOfC qg sg s.heap.objs.size g cdg)) (.call (.ref f) ⟨[], []⟩) (CR (L2N.CX X.prog X.w) (envOfC qg sg s.heap.objs.size g cdg :: X.stack) X.prog X.w HZ s1 Q E) s1 := by
    refine PySem.W.kla_callFunE hr.depth of1 rfl L.co L.gen rfl ⟨c', oc, vs, t, rfl, hoc, hdc, hvc⟩ ?_
    rw [hbind]
    refine wpAny_pure (wpAny_newFunctionEnv (fun y hy => (L.own y hy).2) (fun y hy => absurd hy (by simp)) (fun h₁ hns hsb => ⟨I1.nolimit.fresh _ hsb, ?_⟩) L.kind)
    show codeAny _ _ (.expr body (lamEnv X scope s1.heap.objs.size f c')) _ _
    have kp : ∀ b o, s1.heap.get? b = some o → h₁.get? b = some o := fun b o e => hsb.extBut b o (Nat.ne_of_lt (Heap.lt_size e)) (Heap.get?_push_of_some _ e)
    have J := (lam_start2 (tk := s1.toks + ([] : List (Str × Value)).length) (E := E) (f := f) (c' := c') I L I1.env0 hr.hd un hns kp).wish fun e s' => wpAny (model X.prog X.w) ((X.A.deeper (envOfC qg sg s.heap.objs.size g cdg)).deeper (lamEnv X scope s1.heap.objs.size f c')) (leaving (lamEnv X scope s1.heap.objs.size f c') e) (fun _ s'' => L2N.CX X.prog X.w (envOfC qg sg s.heap.objs.size g cdg :: X.stack) HZ s1 E e s'') (fun e' s'' => L2N.CX X.prog X.w (envOfC qg sg s.heap.objs.size g cdg :: X.stack) HZ s1 E e' s'') s'
    refine PySem.W.kla_codeExpr (wpAny_mono ((hbody (X.A.deeper (envOfC qg sg s.heap.objs.size g cdg)) (envOfC qg sg s.heap.objs.size g cdg :: X.stack) s1 HZ (hr.deeper _)).run [] _ _ HZ Q J ht) (fun v s' hq => ?_) fun e s' hq => hq)
    obtain ⟨w', H', J', rv, q⟩ := hq
    exact ⟨w', H', J'.os, J'.bare, J'.base, J'.hok, rv, q⟩
  refine wpAny_call (codeAny_mono rc fun r s' hq => ?_)
  cases r with
  | error e => exact L2N.passes_call tk hW pinsZ σZ HZ s1 e s' I1 hq
  | ok fl =>
    cases fl with
    | ret u => exact I1.after hq
    | next => exact False.elim hq
    | brk => exact False.elim hq
    | cont => exact False.elim hq
end
end FB
/-! told. -/
namespace FB
open PySem PySem.Spec PyProof.Rows L2 L2H LamX
/-- what is wanted of an exception that told meets -/
def EQ (T : List (Addr × Str)) (cv : Nat → Value) (K : PySem.W.Frag) (kn : Nat → List Nat) (ok : Nat → Bool) (Q : VK) : XK := fun cls d H' => ∃ c F', cls = cv c ∧ d = none ∧ ok c = true ∧ Same F' H' ∧ LamX.Tabs T H' ∧ NT F' ∧ ∀ F'' H'' v, Ext T ⟨fun _ => False, F', H'⟩ F'' H'' → Dv K F'' v (errD kn c) → Q v H''
/-- the reading of the call of term in the handler -/
def tTerm (T : List (Addr × Str)) (K : PySem.W.Frag) (kn : Nat → List Nat) (c : Nat) (a : Addr) : TE := fun σ H Q => σ[1]? = some (some (.ref a)) ∧ ∃ F', Same F' H ∧ LamX.Tabs T H ∧ NT F' ∧ ∀ F'' H'' v, Ext T ⟨fun _ => False, F', H⟩ F'' H'' → Dv K F'' v (errD kn c) → Q v H''
theorem tkN0 {X : Cx} : L2N.Takes X (fun _ _ _ _ => False) := fun _ _ x => by
  obtain ⟨_, _, _, _, _, _, _, _, _, _, _, _, _, _, _, _, z⟩ := x
  exact z.elim
section
variable {X : Cx} {T : List (Addr × Str)} {cv : Nat → Value}
theorem pe_told {kn : Nat → List Nat} {ok : Nat → Bool} {g c P CS : Addr} {k : Nat} {pg : Arguments} {sg : Scope} {dV kV doc pm cdv ct oc : Value} {an od : Option Addr} {osl : Array (Option Value)} {params : Arguments} {body : Expr} {scope : Scope} {t : XK → TE} {p lpos pos p1 p2 p3 p4 p5 p6 p7 p8 p9 p10 : Pos}
    (hg : Gl X "_law_told") (hm : X.mg "_law_told" = some (.ref g)) (hk : PySem.W.keepIn X.K (.ref g) = true)
    (lk : X.K.lookup g = some ⟨oc, od, .func (PySem.W.fnOf "_law_told" "_law_told" pg [.Try [.Return (some (.Call (.Name "deed" p1) [] [] p2)) p3] [.ExceptHandler (some (.Name "FrostError" p4)) (some "e") [.Return (some (.Call (.Name "_law_term" p5) [.Name "e" p6] [] p7)) p8] p9] [] [] p10] sg dV kV doc pm an cdv ct), osl⟩)
    (hcg : PySem.W.codeIn X.K cdv "_law_told" = true) (hb : L2.Binds X.K (PySem.W.fnOf "_law_told" "_law_told" pg [.Try [.Return (some (.Call (.Name "deed" p1) [] [] p2)) p3] [.ExceptHandler (some (.Name "FrostError" p4)) (some "e") [.Return (some (.Call (.Name "_law_term" p5) [.Name "e" p6] [] p7)) p8] p9] [] [] p10] sg dV kV doc pm an cdv ct) ["deed"] []) (Sg : FnScope ["deed", "e"] ["deed"] sg) (hva : Vis sg "deed") (hle : sg.names.lookup ("e" : Str) = some .local) (hge : sg.names.lookup ("FrostError" : Str) = some .globalImplicit) (hme : X.mg "FrostError" = some (.ref CS))
    (hex : ∀ c, ok c = true → PySem.W.exmOne X.K (cv c) (.ref CS) = some true)
    (TB : LamX.TabB X.base X.mg c P) (hcode : X.env.code = .ref c) (hmT : (P, X.env.qual ++ "<lambda>") ∈ T) (hu : ∀ p ∈ T, p.1 = P → p.2 = X.env.qual ++ "<lambda>") (hr : Room (k + 2) X.A) (L : LamS X.env.scope scope) (hdef : defaultsOf params X.env = ([], []))
    (hbind : ∀ (q : Str) (cl : List (Str × Addr)) (pm cv ctv : Value), bindArgs (PySem.W.kla_fn "<lambda>" q params body scope cl pm cv ctv) ⟨[], []⟩ = pure [])
    (hbody : ∀ (A : Around) (outer : List Env) (s : Shared) (H : Hp) (E : XK) (f c' : Addr), Room k (A.deeper (lamEnv X scope s.heap.objs.size f c')) → PE (lamN X A outer s H E scope f c') body (t E))
    (hterm : ∀ (s : Shared) (H : Hp) (a : Addr) (oe : Obj) (c : Nat) (pn : List (Addr × Obj)), Room (k + 1) (X.A.deeper (envOfC "_law_told" sg s.heap.objs.size g cdv)) → ok c = true → L2N.Zn (cv c) none oe → (∃ vs, oe.data = .fields vs) →
      PE ((cxOf CX0 X.prog X.w X.K X.mg X.base ["deed", "e"] "_law_told" sg g cdv X.A X.stack s H E0).nox.suite a ((a, oe) :: pn)) (.Call (.Name "_law_term" p5) [.Name "e" p6] [] p7) (tTerm T X.K kn c a)) :
    PE X (.Call (.Name "_law_told" p) [.Lambda params body scope lpos] [] pos) (fun σ H Q => LamX.Tabs T H ∧ ∀ H1, ExtN H H1 → LamX.Tabs T H1 → t (EQ T cv X.K kn ok Q) σ H1 Q) := by
  refine ⟨fun pins s σ H Q I ⟨hT, h⟩ => ?_⟩
  refine wpAny_Call_Name_kw (ld_glob I hg hm ?_ (by decide +kernel))
  refine PySem.W.callWith_K (h₀ := X.base) I.ok.mod.kin hk ?_ (by rfl) (by rfl)
  show wpAny _ _ (spliced ((false, eval (.Lambda params body scope lpos) X.env) :: backTo pos (starEach [] X.env))) _ _ s
  refine Calls.spliced_cons (lam_make2 I TB hcode hmT hu hT hdef (L.has I.ok) fun f c' pm' ctv H1 s' I1 eN T1 hf hfn hfr hco => Calls.spliced_nil ⟨I1.kIn, ?_⟩)
  have rc : codeAny (model X.prog X.w) X.A (.call (.ref g) ⟨[.ref f], []⟩) (CR CX0 X.stack X.prog X.w H1 s' Q E0) s' := by
    refine run_ofS (N := ["deed", "e"]) (ps := ["deed"]) (us := [.ref f]) (vs := [.ref f]) lk hcg Sg hr I1.env0 (hb s' [.ref f] I1.kIn rfl) (.cons rfl .nil) rfl fun hr2 => ?_
    have hgl : Gl (cxOf CX0 X.prog X.w X.K X.mg X.base ["deed", "e"] "_law_told" sg g cdv X.A X.stack s' H1 E0).nox "FrostError" := hge
    have ht : PSs (cxOf CX0 X.prog X.w X.K X.mg X.base ["deed", "e"] "_law_told" sg g cdv X.A X.stack s' H1 E0).nox _ _ := pss_one (L2N.ps_try_as (X := (cxOf CX0 X.prog X.w X.K X.mg X.base ["deed", "e"] "_law_told" sg g cdv X.A X.stack s' H1 E0).nox) (c := .ref CS) (i := 1) (n := "e") (x := "FrostError") (np := p4) (pos := p10) (pos' := p9) (body := [.Return (some (.Call (.Name "deed" p1) [] [] p2)) p3]) (b₀ := .Return (some (.Call (.Name "_law_term" p5) [.Name "e" p6] [] p7)) p8) (suite := [])
      (tb := fun W D σZ HZ => ∃ Ech : XK, (∀ cls d σ' H', Ech cls d H' → W cls d σ' H') ∧ σZ[0]? = some (some (.ref f)) ∧ HZ c' = some (CodeO c' (X.env.qual ++ "<lambda>")) ∧ t Ech σ HZ D.rt)
      (ts := fun a cls d D σZ HZ => ∃ c σ0, cls = cv c ∧ d = none ∧ ok c = true ∧ σZ = List.set σ0 1 (some (.ref a)) ∧ ∃ F', Same F' HZ ∧ LamX.Tabs T HZ ∧ NT F' ∧ ∀ F'' H'' v, Ext T ⟨fun _ => False, F', HZ⟩ F'' H'' → Dv X.K F'' v (errD kn c) → D.rt v H'')
      rfl rfl Sg.nd rfl hle ⟨hgl, by decide +kernel, .inl hme⟩ (Wout := fun _ _ _ _ => False) tkN0 (fun W pn xe tk _ => ?_) (fun a oe cls d pn hz hfl => ?_))
    · refine ⟨_, ht.nox, EQ T cv X.K kn ok Q, fun cls d σ' H' z => ?_, rfl, hco, h H1 eN T1⟩
      obtain ⟨c0, F', e1, e2, e3, e4, e5, e6, e7⟩ := z
      subst e1 e2
      exact ⟨true, hex c0 e3, fun _ a ha => ⟨c0, σ', rfl, rfl, e3, rfl, F', e4, e5, e6, e7⟩, fun z => nomatch z⟩
    · refine ⟨fun pinsZ sZ σZ HZ D IZ ⟨Ech, hW, h1, h2, h3⟩ => ?_⟩
      have hp := pe_actN (i := 0) (W := W) (p1 := p1) (p2 := p2) (pn := pn) (xe := xe) (CXg := CX0) (Eg := E0) (E := Ech) I1 L hf hfn hfr (hbind _ _ _ _ _) tk hW hr2 (fun A outer s H hr3 => hbody A outer s H Ech f c' hr3) rfl hva (by decide +kernel) (by decide +kernel)
      exact (pss_one (ps_ret (pos := p3) hp)).run pinsZ sZ σZ HZ D IZ ⟨h1, h2, h3⟩
    · refine ⟨fun pinsZ sZ σZ HZ D IZ ⟨c0, σ0, e1, e2, e3, e9, e4⟩ => ?_⟩
      subst e1 e2
      have hl : σZ.length = 2 := IZ.len
      have h1 : σZ[1]? = some (some (.ref a)) := by
        rw [e9, List.length_set] at hl
        rw [e9, List.getElem?_set_self (by omega)]
      exact (pss_one (ps_ret (pos := p8) (hterm s' H1 a oe c0 pn hr2 e3 hz hfl))).run pinsZ sZ σZ HZ D IZ ⟨h1, e4⟩
  refine wpAny_call (codeAny_mono rc fun r s2 hq => ?_)
  cases r with
  | error e => exact (show False from hq).elim
  | ok fl =>
    cases fl with
    | ret u => exact I1.after hq
    | next => exact False.elim hq
    | brk => exact False.elim hq
    | cont => exact False.elim hq
end
end FB
/-! told, over data. -/
namespace FB
open PySem PySem.Spec PyProof.Rows L2 L2H LamX
section
variable {T : List (Addr × Str)} {cv : Nat → Value} {K : PySem.W.Frag} {B : Bs} {r : En} {σ : St} {F H H1 : Hp}
theorem Rep.extN (h : Rep T K B r σ F H) (e : ExtN H H1) (t : LamX.Tabs T H1) : Rep T K B r σ F H1 where
  ext := ⟨h.ext.ff, fun b o q => e b o (h.ext.sub b o q) (h.ext.nt b o q), fun b o q n no => e b o (h.ext.hh b o q n no) n, h.ext.nf, fun b hb => by
    obtain ⟨o, h1, h2, h3⟩ := h.ext.ob b hb
    exact ⟨o, e b o h1 h2, h2, h3⟩, t, h.ext.nt⟩
  len := h.len
  dat := h.dat
  own := fun i xs q => by
    obtain ⟨p, vs, h1, h2, h3⟩ := h.own i xs q
    exact ⟨p, vs, h1, e p _ h2 not_lst, h3⟩
  bor := fun i xs q => by
    obtain ⟨p, vs, h1, h2, h3⟩ := h.bor i xs q
    exact ⟨p, vs, h1, e p _ h2 not_lst, h3⟩
  apart := h.apart
end
section
variable {X : Cx} {T : List (Addr × Str)} {cv : Nat → Value} {E : XK} {fb : M D}
/-- the facts about told that a walk carries -/
structure ToldF (X : Cx) (T : List (Addr × Str)) (cv : Nat → Value) (kn : Nat → List Nat) (ok : Nat → Bool) (k : Nat) : Prop where
  pe : ∀ {params : Arguments} {body : Expr} {scope : Scope} {t : XK → TE} {p lpos pos : Pos}, LamS X.env.scope scope → defaultsOf params X.env = ([], []) → (∀ (q : Str) (cl : List (Str × Addr)) (pm cv ctv : Value), bindArgs (PySem.W.kla_fn "<lambda>" q params body scope cl pm cv ctv) ⟨[], []⟩ = pure []) →
    (∀ (A : Around) (outer : List Env) (s : Shared) (H : Hp) (E : XK) (f c' : Addr), Room k (A.deeper (lamEnv X scope s.heap.objs.size f c')) → PE (lamN X A outer s H E scope f c') body (t E)) →
    PE X (.Call (.Name "_law_told" p) [.Lambda params body scope lpos] [] pos) (fun σ H Q => LamX.Tabs T H ∧ ∀ H1, ExtN H H1 → LamX.Tabs T H1 → t (EQ T cv X.K kn ok Q) σ H1 Q)
theorem de_told {kn : Nat → List Nat} {ok : Nat → Bool} {k : Nat} {params : Arguments} {body : Expr} {scope : Scope} {p lpos pos : Pos} (F : ToldF X T cv kn ok k) (L : LamS X.env.scope scope) (hdef : defaultsOf params X.env = ([], []))
    (hbind : ∀ (q : Str) (cl : List (Str × Addr)) (pm cv ctv : Value), bindArgs (PySem.W.kla_fn "<lambda>" q params body scope cl pm cv ctv) ⟨[], []⟩ = pure [])
    (hb : ∀ (A : Around) (outer : List Env) (s : Shared) (H : Hp) (E : XK) (f c' : Addr), Room k (A.deeper (lamEnv X scope s.heap.objs.size f c')) → DE T cv (lamN X A outer s H E scope f c') E body fb) :
    DE T cv X E (.Call (.Name "_law_told" p) [.Lambda params body scope lpos] [] pos) (eTold kn ok fb) := by
  refine ⟨_, F.pe (t := fun E => tD T cv X.K E fb) L hdef hbind (fun A outer s H E f c' hr => (hb A outer s H E f c' hr).pe), fun B r σ Fh H Q rep h => ⟨rep.ext.tb, fun H1 eN T1 => ?_⟩⟩
  refine ⟨B, r, Fh, rep.extN eN T1, ?_⟩
  unfold eTold at h
  cases ef : fb r with
  | bad =>
    rw [ef] at h
    exact h.elim
  | ok d r1 =>
    rw [ef] at h
    exact h
  | exc c r1 =>
    rw [ef] at h
    dsimp only at h
    split at h
    · rename_i hok
      exact fun F' H' s' rep' => ⟨c, F', rfl, rfl, hok, rep'.ext.sub, rep'.ext.tb, rep'.ext.nt, fun F'' H'' v e dv => h F'' H'' v (s'.trans e.ff) (rep'.call e) dv⟩
    · exact h.elim
/-- the call of term in a handler -/
theorem pe_term {Y : Cx} {kn : Nat → List Nat} {p : Addr × Obj} {k c : Nat} {st : Stmt} {f : Addr} {fd : FuncData} {N : List Str} {b : M Fl} {p5 p6 p7 : Pos} (F : Fun Y.K "_law_term" "_law_term" st f fd) (hm : Y.mg "_law_term" = some (.ref f)) (bi : L2.Binds Y.K fd ["e"] []) (S : FnScope N ["e"] (defScope st))
    (hr : RoomH (k + 1) Y.A) (hot : Hot1 Y.A p) (hp : p ∈ Y.pn) (hg : Gl Y "_law_term") (hN1 : Y.N[1]? = some ("e" : Str)) (hv : Vis Y.env.scope ("e" : Str)) (hn : 1 ≤ N.length)
    (hb : ∀ (cdv : Value) (s : Shared) (H : Hp), RoomH k (Y.A.deeper (envOfC "_law_term" (defScope st) s.heap.objs.size f cdv)) → DSs T cv (cxH CX0 Y.prog Y.w Y.K Y.mg Y.base N "_law_term" (defScope st) f cdv Y.A Y.stack s H E0 p) E0 (defBody st) b)
    (hrun : ∃ r', b (startE N.length [.opq p.1]) = .ok (.ret (errD kn c)) r') (he : starEach [.Name "e" p6] Y.env = (false, eval (.Name "e" p6) Y.env) :: starEach [] Y.env := by rfl) (hpl : (backTo p7 (starEach [] Y.env)).any (·.1) = false := by rfl) :
    PE Y (.Call (.Name "_law_term" p5) [.Name "e" p6] [] p7) (tTerm T Y.K kn c p.1) := by
  obtain ⟨oc, od, kV, doc, pm, an, cdv, ct, osl, rfl, lk, hcd⟩ := F.ex
  obtain ⟨r', hrun⟩ := hrun
  have main := pe_callP (X := Y) (p := p) (k := k) (sp := fun vs H Q => vs = [.ref p.1] ∧ ∃ F', Same F' H ∧ LamX.Tabs T H ∧ NT F' ∧ ∀ F'' H'' v, Ext T ⟨fun _ => False, F', H⟩ F'' H'' → Dv Y.K F'' v (errD kn c) → Q v H'') (q := p5) (pos := p7) lk hcd S hr hot hp hg hm F.kp bi
    (pa_cons (pe_var (pos := p6) hN1 hv (by decide +kernel) (by decide +kernel)) pa_nil he) (fun vs H Q h => by rw [h.1]; rfl) (fun s H vs Q hr2 h => ?_) (by decide +kernel) he hpl
  · refine ⟨fun pins s σ H Q I h => main.run pins s σ H Q I ?_⟩
    obtain ⟨h1, F', h2⟩ := h
    exact ⟨.ref p.1, h1, rfl, F', h2⟩
  · obtain ⟨e, F', h2, h3, h4, h5⟩ := h
    subst e
    obtain ⟨t, pt, qt⟩ := hb cdv s H hr2
    refine ⟨t, pt, qt ⟨fun _ => False, F', H⟩ (startE N.length [.opq p.1]) (L2.start N [.ref p.1]) F' H _ (start_rep h2 ⟨h3, h4⟩ (.cons (.opq p.1) .nil) hn) ?_⟩
    rw [hrun]
    exact fun σ' F'' H'' v s' rep' dv => h5 F'' H'' v rep'.ext dv
end
end FB
/-! The law's code object, its table; told by the head's facts. -/
namespace FB
open PySem PySem.Spec PyProof.Rows L2 L2H LamX
section
variable {P : Program} {w : World} {K : PySem.W.Frag} {mg : Str → Option Value} {base : Heap} {T : List (Addr × Str)} {cv : Nat → Value}
/-- a def by its body, its code object known -/
theorem Fun.okC {x : Str} {st : Stmt} {f : Addr} {fd : FuncData} {N ps : List Str} {k : Nat} {sp : Sp} (F : Fun K x x st f fd) (hf : f = He.fAd K (x, none)) (S : FnScope N ps (defScope st)) (len : ∀ vs H Q E, sp vs H Q E → vs.length = ps.length)
    (hbody : ∀ (cdv : Value), cdv = .ref (He.codeOf K (x, none)) → ∀ (A : Around) (outer : List Env) (s : Shared) (H : Hp) (vs : List V) (Q : VK) (E : XK), Room k (A.deeper (envOfC x (defScope st) s.heap.objs.size f cdv)) → sp vs H Q E →
      ∃ t, PSs (cxOf (L2N.CX P w) P w K mg base N x (defScope st) f cdv A outer s H E) (defBody st) t ∧ t { nx := fun _ H' => Q .non H', rt := Q } (L2.start N vs) H) : FnOk P w K mg base (L2N.CX P w) (k + 1) f fd ps sp := by
  obtain ⟨oc, od, kV, doc, pm, an, cdv, ct, osl, rfl, lk, hcd⟩ := F.ex
  obtain ⟨c, hc⟩ := He.codeIn_ref hcd
  have e : He.codeOf K (x, none) = c := He.codeOf_eq (p := (x, none)) (by rw [← hf]; exact lk) hc
  exact fn_of lk hcd S len fun A outer s H vs Q E hr hsp => hbody cdv (by rw [e]; exact hc) A outer s H vs Q E hr hsp
/-- the exception classes as the law tells them apart -/
structure ErrF (K : PySem.W.Frag) (mg : Str → Option Value) (ca : Nat → Addr) (ok : Nat → Bool) : Prop where
  fe : ∃ CS, mg "FrostError" = some (.ref CS) ∧ ∀ c, ok c = true → PySem.W.exmOne K (.ref (ca c)) (.ref CS) = some true
  xc : ∀ c, ok c = true → ExcC K (ca c)
  kt : ∀ c j, ok c = true → ok j = true → PySem.W.kitOne K (.ref (ca c)) (.ref (ca j)) = some (c == j)
  kv : ∀ c, ok c = true → PySem.W.kitOne K (.ref (ca c)) (.type "ValueError") = some true
/-- term, walked in any handler -/
def TermF (P : Program) (w : World) (K : PySem.W.Frag) (mg : Str → Option Value) (base : Heap) (T : List (Addr × Str)) (ca : Nat → Addr) (cv : Nat → Value) (kn : Nat → List Nat) (ok : Nat → Bool) (N : List Str) (st : Stmt) (k : Nat) : Prop :=
  ∃ b : Addr → Nat → M Fl, (∀ a c, ok c = true → ∃ r', b a c (startE N.length [.opq a]) = .ok (.ret (errD kn c)) r') ∧
    ∀ (A : Around) (outer : List Env) (f : Addr) (cdv : Value) (s : Shared) (H : Hp) (p : Addr × Obj) (c : Nat), ok c = true → p.2.cls = .ref (ca c) → p.2.dict = none → (∃ vs, p.2.data = .fields vs) → Hot1 A p → RoomH k (A.deeper (envOfC "_law_term" (defScope st) s.heap.objs.size f cdv)) →
      DSs T cv (cxH CX0 P w K mg base N "_law_term" (defScope st) f cdv A outer s H E0 p) E0 (defBody st) (b p.1 c)
end
/-- told's text -/
def toldBody (p1 p2 p3 p4 p5 p6 p7 p8 p9 p10 : Pos) : List Stmt := [.Try [.Return (some (.Call (.Name "deed" p1) [] [] p2)) p3] [.ExceptHandler (some (.Name "FrostError" p4)) (some "e") [.Return (some (.Call (.Name "_law_term" p5) [.Name "e" p6] [] p7)) p8] p9] [] [] p10]
section
variable {X : Cx} {T : List (Addr × Str)} {cv : Nat → Value}
theorem told_of {kn : Nat → List Nat} {ok : Nat → Bool} {ca : Nat → Addr} {k : Nat} {sg st : Stmt} {N : List Str} {g gt : Addr} {gd td : FuncData} {c Pt : Addr} {p1 p2 p3 p4 p5 p6 p7 p8 p9 p10 : Pos} (hcv : ∀ c, ok c = true → cv c = .ref (ca c))
    (F : Fun X.K "_law_told" "_law_told" sg g gd) (hm : X.mg "_law_told" = some (.ref g)) (bg : L2.Binds X.K gd ["deed"] []) (hbd : defBody sg = toldBody p1 p2 p3 p4 p5 p6 p7 p8 p9 p10) (Sg : FnScope ["deed", "e"] ["deed"] (defScope sg)) (hva : Vis (defScope sg) ("deed" : Str)) (hve : Vis (defScope sg) ("e" : Str)) (hle : (defScope sg).names.lookup ("e" : Str) = some .local)
    (hge : (defScope sg).names.lookup ("FrostError" : Str) = some .globalImplicit) (hgt : (defScope sg).names.lookup ("_law_term" : Str) = some .globalImplicit) (Ft : Fun X.K "_law_term" "_law_term" st gt td) (hmt : X.mg "_law_term" = some (.ref gt)) (bt : L2.Binds X.K td ["e"] []) (St' : FnScope N ["e"] (defScope st)) (hn : 1 ≤ N.length)
    (Er : ErrF X.K X.mg ca ok) (Tm : TermF X.prog X.w X.K X.mg X.base T ca cv kn ok N st k) (TB : LamX.TabB X.base X.mg c Pt) (hcode : X.env.code = .ref c) (hmT : (Pt, X.env.qual ++ "<lambda>") ∈ T) (hu : ∀ p ∈ T, p.1 = Pt → p.2 = X.env.qual ++ "<lambda>") (hr : Room (k + 2) X.A) (hg : Gl X "_law_told") : ToldF X T cv kn ok k := by
  obtain ⟨CS, hme, hex⟩ := Er.fe
  obtain ⟨oc, od, kV, doc, pm, an, cdv, ct, osl, rfl, lk, hcd⟩ := F.ex
  rw [hbd] at lk bg
  refine ⟨fun L hdef hbind hb => pe_told (CS := CS) hg hm F.kp lk hcd bg Sg hva hle hge hme (fun c hc => by rw [hcv c hc]; exact hex c hc) TB hcode hmT hu hr L hdef hbind hb fun s H a oe c pn hr2 hc hz hfl => ?_⟩
  obtain ⟨z1, z2, z3⟩ := hz
  obtain ⟨vs, hvs⟩ := hfl
  have hot : Hot1 ((cxOf CX0 X.prog X.w X.K X.mg X.base ["deed", "e"] "_law_told" (defScope sg) g cdv X.A X.stack s H E0).nox.suite a ((a, oe) :: pn)).A (a, oe) := ⟨rfl, vs, hvs, z3 vs hvs⟩
  have hrH : RoomH (k + 1) ((cxOf CX0 X.prog X.w X.K X.mg X.base ["deed", "e"] "_law_told" (defScope sg) g cdv X.A X.stack s H E0).nox.suite a ((a, oe) :: pn)).A := ⟨hr2.dp, hr2.un⟩
  obtain ⟨b, hrun, hds⟩ := Tm
  exact pe_term (Y := (cxOf CX0 X.prog X.w X.K X.mg X.base ["deed", "e"] "_law_told" (defScope sg) g cdv X.A X.stack s H E0).nox.suite a ((a, oe) :: pn)) (p := (a, oe)) (b := b a c) (k := k) Ft hmt bt St' hrH hot (List.mem_cons_self ..) hgt rfl hve hn
    (fun cdt s2 H2 hr3 => hds _ _ gt cdt s2 H2 (a, oe) c hc (by rw [z1, hcv c hc]) z2 ⟨vs, hvs⟩ hot hr3) (hrun a c hc)
end
end FB
/-! The exception classes by the head. -/
namespace FB
open PySem PySem.Spec PyProof.Rows L2 L2H LamX
theorem _root_.L2H.RoomH.units {k : Nat} {A : Around} (r : RoomH k A) : A.units + 64 < cLine := by have := r.un; omega
theorem _root_.L2H.RoomH.units65 {k : Nat} {A : Around} (r : RoomH k A) : A.units + 65 < cLine := by have := r.un; omega
theorem _root_.L2.Room.units65 {k : Nat} {A : Around} (r : Room k A) : A.units + 65 < cLine := by have := r.un; omega
def excB (K : PySem.W.Frag) (x : Str) : Bool :=
  He.eqO (PySem.W.findIn K (.ref (He.ga K x)) "__getattribute__") (some (some (.builtin "BaseException.__getattribute__"))) && (He.eqO (PySem.W.findIn K (.ref (He.ga K x)) "__getattr__") (some none) && (decide (PySem.W.subIn K (.ref (He.ga K x)) (.type "BaseException") = some true) && (PySem.W.hasDictIn K (He.ga K x) &&
  (He.eqO (PySem.W.findIn K (.ref (He.ga K x)) "__class__") (some (some (.builtin "object.__class__"))) && (He.eqO (PySem.W.specialIn K (.builtin "object.__class__") "__get__") (some (some (.builtin "getset_descriptor.__get__"))) && (decide (PySem.W.takesIn K (.builtin "object.__class__") = some true) &&
  decide (PySem.W.mroIn K (He.ga K x) (.type "object") = some true)))))))
theorem excB_ok {K : PySem.W.Frag} {x : Str} (h : excB K x = true) : ExcC K (He.ga K x) := by
  unfold excB at h
  obtain ⟨h1, h⟩ := He.ba h
  obtain ⟨h2, h⟩ := He.ba h
  obtain ⟨h3, h⟩ := He.ba h
  obtain ⟨h4, h⟩ := He.ba h
  obtain ⟨h5, h⟩ := He.ba h
  obtain ⟨h6, h⟩ := He.ba h
  obtain ⟨h7, h8⟩ := He.ba h
  exact ⟨He.eqO_ok h1, He.eqO_ok h2, of_decide_eq_true h3, h4, He.eqO_ok h5, He.eqO_ok h6, of_decide_eq_true h7, of_decide_eq_true h8⟩
def nmE : Nat → Str
  | 1 => "InvalidBoard"
  | 2 => "InvalidCell"
  | 3 => "InvalidCells"
  | 4 => "InvalidTicks"
  | 5 => "InvalidText"
  | 6 => "TooLarge"
  | 7 => "Unlike"
  | _ => "NothingToUndo"
def caK (K : PySem.W.Frag) (c : Nat) : Addr := He.ga K (nmE c)
def errB (K : PySem.W.Frag) : Bool := (List.range 8).all fun i => excB K (nmE (i + 1)) && (decide (PySem.W.kitOne K (.ref (caK K (i + 1))) (.type "ValueError") = some true) && (decide (PySem.W.exmOne K (.ref (caK K (i + 1))) (.ref (He.ga K "FrostError")) = some true) &&
  (List.range 8).all fun j => decide (PySem.W.kitOne K (.ref (caK K (i + 1))) (.ref (caK K (j + 1))) = some (i + 1 == j + 1))))
theorem errF_of {K : PySem.W.Frag} {mg : Str → Option Value} (h : errB K = true) (hm : mg "FrostError" = some (.ref (He.ga K "FrostError"))) : ErrF K mg (caK K) okE := by
  have key : ∀ c, okE c = true → excB K (nmE c) = true ∧ PySem.W.kitOne K (.ref (caK K c)) (.type "ValueError") = some true ∧ PySem.W.exmOne K (.ref (caK K c)) (.ref (He.ga K "FrostError")) = some true ∧ ∀ j, okE j = true → PySem.W.kitOne K (.ref (caK K c)) (.ref (caK K j)) = some (c == j) := fun c hc => by
    unfold okE at hc
    simp only [Bool.and_eq_true, decide_eq_true_eq] at hc
    have z := List.all_eq_true.mp h (c - 1) (List.mem_range.mpr (by omega))
    rw [show c - 1 + 1 = c by omega] at z
    obtain ⟨z1, z⟩ := He.ba z
    obtain ⟨z2, z⟩ := He.ba z
    obtain ⟨z3, z4⟩ := He.ba z
    refine ⟨z1, of_decide_eq_true z2, of_decide_eq_true z3, fun j hj => ?_⟩
    unfold okE at hj
    simp only [Bool.and_eq_true, decide_eq_true_eq] at hj
    have y := List.all_eq_true.mp z4 (j - 1) (List.mem_range.mpr (by omega))
    rw [show j - 1 + 1 = j by omega] at y
    exact of_decide_eq_true y
  exact ⟨⟨_, hm, fun c hc => (key c hc).2.2.1⟩, fun c hc => excB_ok (key c hc).1, fun c j hc hj => (key c hc).2.2.2 j hj, fun c hc => (key c hc).2.1⟩
def tabs9 (K : PySem.W.Frag) : List (Addr × Str) := [((He.cT K ("law", none)).2, (("law" : Str) ++ ".<locals>.") ++ "<lambda>")]
end FB
/-! count. -/
namespace FB
open PySem PySem.Spec PyProof.Rows L2 L2H LamX
section
variable {X : Cx}
def rCntD (K : PySem.W.Frag) : V → List V → Hp → VK → Prop := fun x xs H Q => ∃ (a : Addr) (y : V) (d : PyData) (ds : List PyData), x = V.ref a ∧ xs = [y] ∧ Dp K H (V.ref a) (.list ds) ∧ Dp K H y d ∧ SeqAt.shaped (.list ds) = true ∧ SeqAt.shaped d = true ∧ Q (.int ((ds.countP fun z => PyData.eqv z d : Nat) : Int)) H
theorem mt_cntD (hu : X.A.units + 65 < cLine) : MtR X "list.count" (rCntD X.K) := by
  intro pins s σ H x xs v us Q I rx rxs h
  obtain ⟨a, y, d, ds, rfl, rfl, hl, hy, sl, sd, q⟩ := h
  cases rx
  cases rxs with
  | cons ry rt =>
    cases rt
    obtain ⟨bs, r1⟩ := Dp.reads I d y _ hy ry
    have hxs : PyData.canLayAll0 ds = true := SeqAt.canLay_of_shaped sl
    have hroom : X.A.units + 1 + min (PyData.depthAll ds) d.depth < cLine := room_in_shaped sd hu
    cases hl with
    | lst hs ha =>
      obtain ⟨its, rv, pl, hz⟩ := I.list hs
      obtain ⟨as, h4⟩ := Dp.readsAll I ds _ its ha rv
      exact PySem.SeqAt.count_list_data (vs := its.toArray) pl.isList h4 r1 (PyData.plainAll_of_canLay0 ds hxs) (PyData.plain_of_canLay0 d (SeqAt.canLay_of_shaped sd)) hroom ⟨.int _, H, I.tok _, ⟨_, rfl⟩, q⟩
theorem cntD_py : ∀ (xs : List D) (e : D), D.depL xs ≤ 60 → e.dep ≤ 60 → (D.py.go xs).countP (fun z => PyData.eqv z e.py) = xs.countP fun z => D.eqv z e
  | [], _, _, _ => by simp [D.py.go]
  | x :: xs, e, h, he => by
    have h1 : max (D.dep x) (D.depL xs) ≤ 60 := by simpa only [D.depL] using h
    simp only [D.py.go, List.countP_cons]
    rw [cntD_py xs e (by omega) he, eqv_py x e (by omega) he]
theorem cntS (x : Str) (c : Nat) : Txt.count x ⟨#[c]⟩ = ((x.cps.toList.count c : Nat) : Int) := by
  rw [count_cnt]
  generalize x.cps.toList = l
  induction l with
  | nil => rfl
  | cons a l ih =>
    rw [cnt_cons, List.count_cons, ih]
    by_cases h : a = c
    · simp [h]
      omega
    · simp [h]
variable {T : List (Addr × Str)} {cv : Nat → Value} {E : XK} {e a b c tg iter : Expr} {pos : Pos} {fa fb fc : M D}
theorem de_cnt {o : Expr} {fo : M D} {apos cpos : Pos} (hu : X.A.units + 65 < cLine) (ho : DE T cv X E o fo) (ha : DE T cv X E a fa)
    (hbase : attributeBase o "count" X.env (eval o X.env) = eval o X.env := by rfl)
    (hfew : ((backTo cpos (starEach [a] X.env)).all (fun x => !x.1) && (backToKw cpos (keywordEach [] X.env)).all (fun x => x.1.isSome) && decide ([a].length + ([] : List Keyword).length + (if ([] : List Keyword).isEmpty then 0 else 1) < 30)) = true := by rfl)
    (hline : (apos.endLine == cpos.line) = true := by rfl) (hs : starEach [a] X.env = (false, eval a X.env) :: starEach [] X.env := by rfl) (hplain : (backTo cpos (starEach [] X.env)).any (·.1) = false := by rfl) :
    DE T cv X E (.Call (.Attribute o "count" apos) [a] [] cpos) (eCnt fo fa) := by
  obtain ⟨to, po, qo⟩ := ho
  obtain ⟨ta, pa, qa⟩ := ha
  refine ⟨_, PE.or (pe_bm PySem.F.plainAttrs_list PySem.F.slot_list_count PySem.F.type_list_count (mt_cntD hu) po (pa_cons pa pa_nil hs) hbase hfew hline hs hplain) (pe_bm PySem.F.plainAttrs_str PySem.F.slot_str_count PySem.F.type_str_count mt_count po (pa_cons pa pa_nil hs) hbase hfew hline hs hplain), fun B r σ F H Q rep h => ?_⟩
  unfold eCnt at h
  cases ef : fo r with
  | bad =>
    rw [ef] at h
    exact h.elim
  | exc c0 r1 =>
    rw [ef] at h
    refine .inl (qo B r σ F H _ rep ?_)
    rw [ef]
    exact h
  | ok d r1 =>
    rw [ef] at h
    cases d with
    | lst xs =>
      refine .inl (qo B r σ F H _ rep ?_)
      rw [ef]
      intro F1 H1 x s1 rep1 dx
      have dx0 := dx
      cases dx with
      | lst hF dvs =>
        refine ⟨.inl ⟨rfl, _, SqL.of (rep1.ext.sub _ _ hF)⟩, ?_⟩
        refine qa B r1 σ F1 H1 _ rep1 (Po.bind (Po.from s1 h) fun e r2 F2 H2 y er2 s2 rep2 dy h2 => ?_)
        obtain ⟨z, ez, q⟩ := h2.lift
        split at ez
        · rename_i hd
          cases ez
          have dl : D.depL xs ≤ 60 := by
            have := hd.2
            simp only [D.dep] at this
            omega
          refine ⟨_, y, e.py, D.py.go xs, rfl, rfl, (dx0.mono s2).dp rep2.ext.sub (by omega), dy.dp rep2.ext.sub (by omega), dx0.shaped hd.2, dy.shaped hd.1, ?_⟩
          rw [cntD_py xs e dl hd.1]
          exact q F2 H2 _ (Same.refl _) rep2 (.int _)
        · cases ez
    | str s0 =>
      refine .inr (qo B r σ F H _ rep ?_)
      rw [ef]
      intro F1 H1 x s1 rep1 dx
      cases dx with
      | str z0 h1 h2 =>
        refine ⟨rfl, ?_⟩
        refine qa B r1 σ F1 H1 _ rep1 (Po.bind (Po.from s1 h) fun e r2 F2 H2 y er2 s2 rep2 dy h2 => ?_)
        split at h2
        · rename_i c0
          obtain ⟨x0, rfl, e0⟩ := dv_str1 dy
          have ex : x0 = ⟨#[c0]⟩ := by
            obtain ⟨ar⟩ := x0
            have e3 : ar.toList = [c0] := e0
            rw [Str.mk.injEq, ← Array.toList_inj, e3]
          subst ex
          refine ⟨z0, ⟨#[c0]⟩, rfl, rfl, ?_⟩
          rw [cntS]
          exact h2 F2 H2 _ (Same.refl _) rep2 (.int _)
        · exact h2.elim
    | _ => exact h.elim
end
end FB
/-! sorted. -/
/-! enumerate(list). -/
/-! str.split. -/
namespace FB
open PySem PySem.Spec PyProof.Rows L2 L2H LamX
theorem split_codes (x y : Str) (c : Nat) (hy : y.cps = #[c]) : (Txt.split x y).map (fun p => p.cps.toList) = splitC c x.cps.toList := by
  have ey : y = ⟨#[c]⟩ := by cases y; exact congrArg Str.mk hy
  subst ey
  have h1 := StrLaws.join_split x ⟨#[c]⟩
  have h2 := StrLaws.split_free x c
  have ne : Txt.split x ⟨#[c]⟩ ≠ [] := fun z => by
    rw [z] at h1
    have hx : x = ⟨#[]⟩ := h1.symm
    subst hx
    have : Txt.split (⟨#[]⟩ : Str) ⟨#[c]⟩ = [⟨#[]⟩] := by
      unfold Txt.split
      rw [if_pos]
      rfl
    rw [this] at z
    cases z
  have h3 : joinL [c] ((Txt.split x ⟨#[c]⟩).map fun p => p.cps.toList) = x.cps.toList := by
    have := join_toList ⟨#[c]⟩ (Txt.split x ⟨#[c]⟩)
    rw [h1] at this
    exact this.symm
  rw [← h3]
  symm
  apply splitC_join
  · simpa using ne
  · intro p hp
    obtain ⟨q, hq, rfl⟩ := List.mem_map.mp hp
    exact h2 q hq
end FB
/-! tuple[::-1]; is not, of bools. -/
/-! Tokens: what has met a written number has given one out. -/
/-! A first statement `if .. or not 1 <= .. or ..: return False`: behind it a token is out. -/
namespace FB
open PySem PySem.Spec PyProof.Rows L2 L2H LamX
section
variable {M : Model} {A : Around} {env : Env} {s : Shared}
theorem strict_or {n : Int} {j : Nat} {cp pos np bp : Pos} {o1 o2 : CmpOp} {ops : List CmpOp} {a c r1 r2 : Expr} {rs : List Expr} {whole : Sem Value} {Γ : PySem.Ctx} {p : Pos} {Q : Bool → Pos → Shared → Prop} {E : Value → Pos → Shared → Prop}
    (h1 : Sem.wp M Γ (isTrue (.BoolOp .Or [a, .UnaryOp .Not (.Compare (.Constant (.int n) j cp) (o1 :: o2 :: ops) (r1 :: r2 :: rs) pos) np, c] bp) env whole) Q E p s) :
    Sem.wp M Γ (isTrue (.BoolOp .Or [a, .UnaryOp .Not (.Compare (.Constant (.int n) j cp) (o1 :: o2 :: ops) (r1 :: r2 :: rs) pos) np, c] bp) env whole) (fun b p' s' => Q b p' s' ∧ (b = false → 1 ≤ s'.toks)) E p s := by
  change Sem.wp M Γ (allTrue .Or [a, .UnaryOp .Not (.Compare (.Constant (.int n) j cp) (o1 :: o2 :: ops) (r1 :: r2 :: rs) pos) np, c] env) _ _ p s at h1
  change Sem.wp M Γ (allTrue .Or [a, .UnaryOp .Not (.Compare (.Constant (.int n) j cp) (o1 :: o2 :: ops) (r1 :: r2 :: rs) pos) np, c] env) _ _ p s
  rw [allTrue, Sem.wp_bind'] at h1 ⊢
  refine Sem.wp_mono M Γ _ (fun d p1 s1 h2 => ?_) (fun _ _ _ z => z) _ _ h1
  cases d with
  | true => exact ⟨h2, fun e => nomatch e⟩
  | false =>
    change Sem.wp M Γ (allTrue .Or [.UnaryOp .Not (.Compare (.Constant (.int n) j cp) (o1 :: o2 :: ops) (r1 :: r2 :: rs) pos) np, c] env) _ _ p1 s1 at h2
    change Sem.wp M Γ (allTrue .Or [.UnaryOp .Not (.Compare (.Constant (.int n) j cp) (o1 :: o2 :: ops) (r1 :: r2 :: rs) pos) np, c] env) _ _ p1 s1
    rw [allTrue, Sem.wp_bind'] at h2 ⊢
    rw [show ∀ w, isTrue (.UnaryOp .Not (.Compare (.Constant (.int n) j cp) (o1 :: o2 :: ops) (r1 :: r2 :: rs) pos) np) env w = (do return !(← isTrue (.Compare (.Constant (.int n) j cp) (o1 :: o2 :: ops) (r1 :: r2 :: rs) pos) env (eval (.Compare (.Constant (.int n) j cp) (o1 :: o2 :: ops) (r1 :: r2 :: rs) pos) env))) from fun _ => rfl, Sem.wp_bind'] at h2 ⊢
    have h3 := Sem.wp_toks M Γ 1 (testChain pos (.int n s1.toks) (o1 :: o2 :: ops) (markedEach (o1 :: o2 :: ops) (r1 :: r2 :: rs) (evalEach (r1 :: r2 :: rs) env))) _ _ _ { s1 with toks := s1.toks + 1 } (Nat.le_add_left _ _) h2
    refine Sem.wp_mono M Γ (testChain pos (.int n s1.toks) (o1 :: o2 :: ops) (markedEach (o1 :: o2 :: ops) (r1 :: r2 :: rs) (evalEach (r1 :: r2 :: rs) env))) (fun d p2 s2 h4 => ?_) (fun _ _ _ z => z.2) _ { s1 with toks := s1.toks + 1 } h3
    obtain ⟨k4, h4⟩ := h4
    cases d with
    | false => exact ⟨h4, fun e => nomatch e⟩
    | true => exact Sem.wp_mono M Γ (allTrue .Or [c] env) (fun _ _ _ z => ⟨z.2, fun _ => z.1⟩) (fun _ _ _ z => z.2) _ _ (Sem.wp_toks M Γ 1 (allTrue .Or [c] env) _ _ _ _ k4 h4)
/-- what comes behind it -/
theorem strict_first {n : Int} {j j' : Nat} {cp pos np bp ip rp fp : Pos} {o1 o2 : CmpOp} {ops : List CmpOp} {a c r1 r2 : Expr} {rs : List Expr} {rest : List Stmt} {Q : Flow → Shared → Prop} {E : Value → Shared → Prop}
    (h : wpAny M A (execs (.If (.BoolOp .Or [a, .UnaryOp .Not (.Compare (.Constant (.int n) j cp) (o1 :: o2 :: ops) (r1 :: r2 :: rs) pos) np, c] bp) [.Return (some (.Constant (.bool false) j' fp)) rp] [] ip :: rest) env) Q E s) :
    wpAny M A (execs (.If (.BoolOp .Or [a, .UnaryOp .Not (.Compare (.Constant (.int n) j cp) (o1 :: o2 :: ops) (r1 :: r2 :: rs) pos) np, c] bp) [.Return (some (.Constant (.bool false) j' fp)) rp] [] ip :: rest) env) (fun fl s' => Q fl s' ∧ (fl ≠ .ret (.bool false) → 1 ≤ s'.toks)) E s := fun Γ p hΓ => by
  have h1 := h Γ p hΓ
  rw [execs_cons, Sem.wp_bind', exec_If, Sem.wp_bind', Sem.wp_cmd_standAt, Sem.wp_bind'] at h1 ⊢
  refine Sem.wp_mono M Γ _ (fun d p1 s1 z => ?_) (fun _ _ _ z => z) _ _ (strict_or h1)
  obtain ⟨z, k⟩ := z
  cases d with
  | true => exact ⟨z, fun e => absurd rfl e⟩
  | false => exact Sem.wp_mono M Γ (execs rest env) (fun _ _ _ z => ⟨z.2, fun _ => z.1⟩) (fun _ _ _ z => z.2) _ _ (Sem.wp_toks M Γ 1 (execs rest env) _ _ _ _ (k rfl) z)
end
end FB
/-! Runs that begin with m tokens out and tell of the tokens at their end. -/
namespace FB
open PySem PySem.Spec PyProof.Rows L2 L2H LamX
structure FnG (P : Program) (w : World) (K : PySem.W.Frag) (mg : Str → Option Value) (base : Heap) (CXt : CXT) (k : Nat) (f : Addr) (fd : FuncData) (ps : List Str) (sp : Sp) (m : Nat) (Z : Value → Prop) : Prop where
  len : ∀ vs H Q E, sp vs H Q E → vs.length = ps.length
  go : ∀ (A : Around) (outer : List Env) (s : Shared) (H : Hp) (args : Args) (us : List Value) (vs : List V) (Q : VK) (E : XK), m ≤ s.toks → Room k A → Env0 P w K mg base A outer s H → BindsTo s fd args (ps.zip us) → Vals vs us → sp vs H Q E →
    codeAny (model P w) A (.call (.ref f) args) (fun r s' => CR CXt outer P w H s Q E r s' ∧ ∀ u, r = .ok (.ret u) → Z u → 1 ≤ s'.toks) s
def HasG (P : Program) (w : World) (K : PySem.W.Frag) (mg : Str → Option Value) (base : Heap) (T : List (Addr × Str)) (cv : Nat → Value) (k : Nat) (x : Str) (n : Nat) (f : List D → Ro) (m : Nat) (Z : Value → Prop) : Prop :=
  ∃ (a : Addr) (fd : FuncData) (ps : List Str), mg x = some (.ref a) ∧ PySem.W.keepIn K (.ref a) = true ∧ Binds K fd ps [] ∧ FnG P w K mg base (L2N.CX P w) k a fd ps (spD T cv K n f) m Z
theorem HasG.has {P : Program} {w : World} {K : PySem.W.Frag} {mg : Str → Option Value} {base : Heap} {T : List (Addr × Str)} {cv : Nat → Value} {k : Nat} {x : Str} {n : Nat} {f : List D → Ro} {Z : Value → Prop} (h : HasG P w K mg base T cv k x n f 0 Z) : Has P w K mg base T cv k x n f := by
  obtain ⟨a, fd, ps, h1, h2, h3, h4⟩ := h
  exact ⟨a, fd, ps, h1, h2, h3, ⟨h4.len, fun A outer s H args us vs Q E hr e0 hb r hs => codeAny_mono (h4.go A outer s H args us vs Q E (Nat.zero_le _) hr e0 hb r hs) fun _ _ z => z.1⟩⟩
/-- the value of a flow -/
def flV : Flow → Value
  | .ret u => u
  | _ => .none
section
variable (T : List (Addr × Str)) (cv : Nat → Value)
def GS (m : Nat) (Z : Value → Prop) (X : Cx) (E : XK) (st : List Stmt) (f : M Fl) : Prop := ∀ (pins : List (Addr × Obj)) (s : Shared) B r σ F H D, m ≤ s.toks → Inv X pins σ H s → Rep T X.K B r σ F H → PoS T cv X.K B F E D (f r) →
  wpAny (model X.prog X.w) X.A (execs st X.env) (fun fl s' => SP X pins D fl s' ∧ (Z (flV fl) → 1 ≤ s'.toks)) X.xe s
def GE (m : Nat) (Z : Value → Prop) (X : Cx) (E : XK) (e : Expr) (f : M D) : Prop := ∀ (pins : List (Addr × Obj)) (s : Shared) B r σ F H Q, m ≤ s.toks → Inv X pins σ H s → Rep T X.K B r σ F H → PoE T cv X.K B σ F E Q (f r) →
  wpAny (model X.prog X.w) X.A (eval e X.env) (fun u s' => EP X pins σ Q u s' ∧ (Z u → 1 ≤ s'.toks)) X.xe s
end
section
variable {T : List (Addr × Str)} {cv : Nat → Value} {X : Cx} {E : XK} {e a b : Expr} {es : List Expr} {st : Stmt} {rest : List Stmt} {m : Nat} {Z Z' : Value → Prop} {pos p : Pos} {fa fb : M D} {fs : M (List D)} {fl fr : M Fl}
theorem GS.d (h : GS T cv 0 Z X E rest fl) : DSs T cv X E rest fl :=
  ⟨fun D σ H => ∃ B r F, Rep T X.K B r σ F H ∧ PoS T cv X.K B F E D (fl r), ⟨fun pins s σ H D I z => by
    obtain ⟨B, r, F, z1, z2⟩ := z
    exact wpAny_mono (h pins s B r σ F H D (Nat.zero_le _) I z1 z2) (fun _ _ q => q.1) fun _ _ q => q⟩, fun B r σ F H D rep q => ⟨B, r, F, rep, q⟩⟩
end
/-- the callee's run -/
theorem run_G {P : Program} {w : World} {K : PySem.W.Frag} {mg : Str → Option Value} {base : Heap} {T : List (Addr × Str)} {cv : Nat → Value} {x : Str} {st : Stmt} {f : Addr} {fd : FuncData} {N ps : List Str} {k n m : Nat} {b : M Fl} {Z : Value → Prop}
    (F : Fun K x x st f fd) (hm : mg x = some (.ref f)) (bi : Binds K fd ps []) (S : FnScope N ps (defScope st)) (hn : ps.length = n) (hN : ps.length ≤ N.length)
    (hb : ∀ (cdv : Value) (A : Around) (outer : List Env) (s : Shared) (H : Hp) (E : XK), Room k (A.deeper (envOfC x (defScope st) s.heap.objs.size f cdv)) →
      GS T cv m Z (cxOf (L2N.CX P w) P w K mg base N x (defScope st) f cdv A outer s H E) E (defBody st) b) : HasG P w K mg base T cv (k + 1) x n (runD n N.length b) m Z := by
  refine ⟨f, fd, ps, hm, F.kp, bi, ⟨fun vs H Q E h => ?_, fun A outer s H args us vs Q E htk hr e0 hbi r h => ?_⟩⟩
  · obtain ⟨_, _, h1, _⟩ := h
    rw [h1, hn]
  obtain ⟨oc, od, kV, doc, pm, an, cdv, ct, osl, rfl, lk, hcd⟩ := F.ex
  obtain ⟨Fh, ds, h1, h2, h3, h4, h5⟩ := h
  have KX : K.In s.heap := e0.mod.kin.keeps fun b o e => (e0.bs b o e).1
  have nl : s.heap.NoLimit := e0.mod.nolimit.keeps fun b o e => (e0.bs b o e).1
  have kinds : ∀ y ∈ ps.zip us, (defScope st).names.lookup y.1 = some .local ∨ ((defScope st).names.lookup y.1 = some .cell ∧ ((cellsFrom (s.heap.objs.size + 1) (defScope st).names []).lookup y.1).isSome = true) := fun y hy =>
    (S.par y.1 (List.of_mem_zip (show (y.1, y.2) ∈ ps.zip us from hy)).1).elim (fun z => .inl z) fun z => .inr ⟨z, PySem.W.cellsFrom_some _ _ _ (.inl z)⟩
  refine codeAny_call_function hr.depth (KX _ _ lk) rfl S.co S.gen rfl (PySem.W.codeRec_of KX hcd) (hbi _ _ _ _ (wpAny_with_toks htk (wpAny_newFunctionEnv_cells S.kind kinds fun env he s1 x htk1 => ?_)))
  subst he
  refine ⟨nl.keeps x.toInCall.keep, codeAny_func ?_⟩
  have J0 := inv_start (CX := L2N.CX P w) (E := E) S hr.hd e0 (by omega) r x
  refine wpAny_mono (hb cdv A outer s H E (hr.deeper _) [] s1 ⟨fun _ => False, Fh, H⟩ (startE N.length ds) (L2.start N vs) Fh H { nx := fun _ H' => Q .non H', rt := Q } htk1 J0 (start_rep h2 h3 h4 (by omega)) ?_) (fun fl s' hs => ?_) fun e s' hs => wpAny_mono (show wpAny _ _ _ _ _ _ from hs) (fun _ _ z => ⟨z, fun _ y => nomatch y⟩) fun _ _ z => ⟨z, fun _ y => nomatch y⟩
  · unfold runD at h5
    rw [if_pos (by rw [← h4.len]; exact h1)] at h5
    cases er : b (startE N.length ds) with
    | ok fl r =>
      rw [er] at h5
      cases fl with
      | nx => exact fun σ' F' H' s' rep' => h5 F' H' .non rep'.ext .non
      | ret d => exact fun σ' F' H' v s' rep' dv => h5 F' H' v rep'.ext dv
    | exc c r =>
      rw [er] at h5
      exact fun σ' F' H' s' rep' => h5 F' H' rep'.ext
    | bad =>
      rw [er] at h5
      exact h5
  · obtain ⟨hs, hz⟩ := hs
    cases fl with
    | ret u =>
      obtain ⟨v, σ', H', J, rv, q⟩ := hs
      exact ⟨⟨v, H', J.os, J.bare, J.base, J.hok, rv, q⟩, fun u' e => by cases e; exact hz⟩
    | next =>
      obtain ⟨σ', H', J, q⟩ := hs
      exact ⟨⟨V.non, H', J.os, J.bare, J.base, J.hok, rfl, q⟩, fun u' e => by cases e; exact hz⟩
    | brk =>
      obtain ⟨_, _, _, q⟩ := hs
      exact False.elim q
    | cont =>
      obtain ⟨_, _, _, q⟩ := hs
      exact False.elim q
end FB
/-! Calls and statements that tell of the tokens. -/
namespace FB
open PySem PySem.Spec PyProof.Rows L2 L2H LamX
section
variable {T : List (Addr × Str)} {cv : Nat → Value} {X : Cx} {E : XK} {e a b : Expr} {es : List Expr} {st : Stmt} {rest : List Stmt} {m : Nat} {Z Z' : Value → Prop} {pos p : Pos} {fa fb : M D} {fs : M (List D)} {fl fr : M Fl}
theorem ge_call {x : Str} {k n : Nat} {f : List D → Ro} (tk : Tk X E) (G : HasG X.prog X.w X.K X.mg X.base T cv k x n f m Z) (hr : Room k X.A) (hg : Gl X x) (ha : DA T cv X E (e :: es) fs) (hl : Ln fs n) (hdb : (x == ("__debug__" : Str)) = false := by decide)
    (he : starEach (e :: es) X.env = (false, eval e X.env) :: starEach es X.env := by rfl) (hpl : (backTo pos (starEach es X.env)).any (·.1) = false := by rfl) : GE T cv m Z X E (.Call (.Name x p) (e :: es) [] pos) (eCall f fs) := by
  intro pins s B r σ F H Q hm I rep h
  obtain ⟨t, pp, q⟩ := ha
  obtain ⟨ad, fd, ps, g1, g2, g3, g4⟩ := G
  refine wpAny_Call_Name_kw (ld_glob I hg g1 ?_ hdb)
  have hq : t σ H (fun vs H1 => spD T cv X.K n f vs H1 Q E) := by
    refine q B r σ F H _ rep (Po.bind h fun ds r1 F1 H1 xs er s1 rep1 dxs h1 => ?_)
    refine ⟨F1, ds, by rw [dxs.len]; exact hl r ds r1 er, rep1.ext.sub, ⟨rep1.ext.tb, rep1.ext.nt⟩, dxs, ?_⟩
    cases ef : f ds with
    | ok d =>
      rw [ef] at h1
      exact fun F' H' v e dv => h1 F' H' v e.ff (rep1.call e) dv
    | exc c =>
      rw [ef] at h1
      exact fun F' H' e => h1 F' H' e.ff (rep1.call e)
    | bad =>
      rw [ef] at h1
      exact h1
  refine PySem.W.callWith_K (h₀ := X.base) I.ok.mod.kin g2 (wpAny_mono (wpAny_toks_of hm (pp.run pos pins s σ H _ I hq)) (fun us s1 z => ?_) fun _ _ z => z.2) he hpl
  obtain ⟨hm1, vs, H1, I1, rv, z⟩ := z
  refine ⟨I1.kIn, ?_⟩
  have hl : us.length = ps.length := by rw [← rv.length]; exact g4.len _ _ _ _ z
  have b := g3 s1 us I1.kIn (by rw [List.append_nil]; exact hl)
  rw [List.append_nil] at b
  refine wpAny_call (codeAny_mono (g4.go X.A X.stack s1 H1 ⟨us, []⟩ us vs Q E hm1 hr I1.env0 b rv z) fun r2 s2 hq => ?_)
  obtain ⟨hq, hz⟩ := hq
  cases r2 with
  | error e => exact L2N.passAt tk σ pins H1 s1 e s2 I1 hq
  | ok fl =>
    cases fl with
    | ret u => exact ⟨I1.after hq, hz u rfl⟩
    | next => exact False.elim hq
    | brk => exact False.elim hq
    | cont => exact False.elim hq
end
end FB
/-! The judgements, one token out. -/
namespace FB
open PySem PySem.Spec PyProof.Rows L2 L2H LamX
def PTT (X : Cx) (e : Expr) (t : TT) : Prop :=
  ∀ (pins : List (Addr × Obj)) (s : Shared) (σ : St) (H : Hp) (Q : Bool → Hp → Prop), 1 ≤ s.toks → Inv X pins σ H s → t σ H Q → wpAny (model X.prog X.w) X.A (isTrue e X.env (eval e X.env)) (TP X pins σ Q) X.xe s
section
variable (T : List (Addr × Str)) (cv : Nat → Value)
def De1 (X : Cx) (E : XK) (e : Expr) (f : M D) : Prop := ∃ t, PET X e t ∧ ∀ B r σ F H Q, Rep T X.K B r σ F H → PoE T cv X.K B σ F E Q (f r) → t σ H Q
def Dt1 (X : Cx) (E : XK) (e : Expr) (f : M Bool) : Prop := ∃ t, PTT X e t ∧ ∀ B r σ F H Q, Rep T X.K B r σ F H → PoT T cv X.K B σ F E Q (f r) → t σ H Q
def Ds1 (X : Cx) (E : XK) (st : Stmt) (f : M Fl) : Prop := ∃ t, PST X st t ∧ ∀ B r σ F H D, Rep T X.K B r σ F H → PoS T cv X.K B F E D (f r) → t D σ H
def Dss1 (X : Cx) (E : XK) (st : List Stmt) (f : M Fl) : Prop := ∃ t, PSsT X st t ∧ ∀ B r σ F H D, Rep T X.K B r σ F H → PoS T cv X.K B F E D (f r) → t D σ H
end
section
variable {T : List (Addr × Str)} {cv : Nat → Value} {X : Cx} {E : XK} {e a b c : Expr} {es : List Expr} {st : Stmt} {rest : List Stmt} {m : Nat} {Z Z' : Value → Prop} {pos p : Pos} {fa fb : M D} {tA : M Bool} {fs : M (List D)} {f g : M Fl}
theorem GE.one (h : GE T cv 1 Z X E e fa) : De1 T cv X E e fa :=
  ⟨fun σ H Q => ∃ B r F, Rep T X.K B r σ F H ∧ PoE T cv X.K B σ F E Q (fa r), fun pins s σ H Q hm I z => by
    obtain ⟨B, r, F, z1, z2⟩ := z
    exact wpAny_mono (h pins s B r σ F H Q hm I z1 z2) (fun _ _ q => q.1) fun _ _ q => q, fun B r σ F H D rep q => ⟨B, r, F, rep, q⟩⟩
theorem DE.one (h : DE T cv X E e fa) : De1 T cv X E e fa := by
  obtain ⟨t, p1, q1⟩ := h
  exact ⟨t, CwR.PET.of p1, q1⟩
theorem DSs.one (h : DSs T cv X E rest f) : Dss1 T cv X E rest f := by
  obtain ⟨t, p1, q1⟩ := h
  exact ⟨t, PSsT.of p1, q1⟩
theorem DS.one (h : DS T cv X E st f) : Ds1 T cv X E st f := by
  obtain ⟨t, p1, q1⟩ := h
  exact ⟨t, PST.of p1, q1⟩
theorem Dss1.gs (h : Dss1 T cv X E rest f) : GS T cv 1 Z X E rest f := by
  intro pins s B r σ F H D hm I rep q
  obtain ⟨t, p1, q1⟩ := h
  exact wpAny_mono (wpAny_toks_of hm (p1 pins s σ H D hm I (q1 B r σ F H D rep q))) (fun _ _ z => ⟨z.2, fun _ => z.1⟩) fun _ _ z => z.2
theorem ptt_cmp {op : CmpOp} {rr : R2} {ta tb : TE} (ho : OpR X (compareOp op) rr) (ha : PET X a ta) (hb : PET X b tb) (hm : behindInMarks op b = false) : PTT X (.Compare a [op] [b] pos) (tTest (tOp rr ta tb)) := by
  intro pins s σ H Q h0 I h
  refine wpAny_isTrue_Compare1 (wpAny_mono (wpAny_toks_of h0 (ha pins s σ H _ h0 I h)) (fun v s1 q => ?_) fun _ _ z => z.2) hm
  obtain ⟨h1, x, H1, I1, r1, q1⟩ := q
  refine thn (hb pins s1 σ H1 _ h1 I1 q1) fun u s2 ⟨y, H2, I2, r2, q2⟩ => thn (ho pins s2 σ H2 x y v u _ I2 r1 r2 q2) fun c s3 ⟨z, H3, I3, r3, k, e, q3⟩ => ?_
  subst e
  cases r3
  exact wpAny_truthy_bool ⟨H3, I3, q3⟩
theorem dt1_cmp {op : CmpOp} {rr : R2} {ff : D → D → Option D} (ho : OpR X (compareOp op) rr) (o : Op2 T X.K rr ff) (hm : behindInMarks op b = false) (ha : De1 T cv X E a fa) (hb : De1 T cv X E b fb) : Dt1 T cv X E (.Compare a [op] [b] pos) (tV (e2 ff fa fb)) := by
  obtain ⟨ta, pa, qa⟩ := ha
  obtain ⟨tb, pb, qb⟩ := hb
  refine ⟨_, ptt_cmp ho pa pb hm, fun B r σ F H Q rep h => ?_⟩
  refine tOp_ok o qa qb B r σ F H _ rep (Po.bind h fun d r1 F1 H1 x _ s1 rep1 dx h1 => ?_)
  cases d with
  | bl k =>
    cases dx
    exact ⟨k, rfl, h1 F1 H1 k (Same.refl _) rep1 rfl⟩
  | _ => exact h1.elim
theorem ds1_ret (he : De1 T cv X E e fa) : Ds1 T cv X E (.Return (some e) pos) (sRet fa) := by
  obtain ⟨t, p, q⟩ := he
  refine ⟨_, CwR.pst_ret p, fun B r σ F H D rep h => ?_⟩
  exact q B r σ F H _ rep (PoS.bind h fun d r1 F1 H1 v er s1 rep1 dv h1 => h1 σ F1 H1 v (Same.refl _) rep1 dv)
theorem pst_ifT {sa sb : List Stmt} {tc : TT} {t u : TS} (hc : PTT X c tc) (ha : PSsT X sa t) (hb : PSsT X sb u) : PST X (.If c sa sb pos) (tIfS tc t u) := by
  intro pins s σ H D h0 I h
  refine wpAny_If (wpAny_mono (wpAny_toks_of h0 (hc pins s σ H _ h0 I h)) (fun d s1 q => ?_) fun _ _ z => z.2)
  obtain ⟨h1, H1, I1, q1⟩ := q
  cases d with
  | true => exact (ha pins s1 σ H1 D h1) I1 q1
  | false => exact (hb pins s1 σ H1 D h1) I1 q1
theorem ds1_if {sa sb : List Stmt} (hc : Dt1 T cv X E c tA) (ha : Dss1 T cv X E sa f) (hb : Dss1 T cv X E sb g) : Ds1 T cv X E (.If c sa sb pos) (sIf tA f g) := by
  obtain ⟨tc, pc, qc⟩ := hc
  obtain ⟨t, p, q⟩ := ha
  obtain ⟨t', p', q'⟩ := hb
  refine ⟨_, pst_ifT pc p p', fun B r σ F H D rep h => ?_⟩
  refine qc B r σ F H _ rep (PoS.bind h fun k r1 F1 H1 x _ s1 rep1 dx h1 => ?_)
  subst dx
  cases x with
  | true => exact iteT (q B r1 σ F1 H1 D rep1 h1)
  | false => exact iteF (q' B r1 σ F1 H1 D rep1 h1)
theorem dss1_one (h1 : Ds1 T cv X E st f) : Dss1 T cv X E [st] f := by
  obtain ⟨t, p, q⟩ := h1
  exact ⟨t, fun pins s σ H D h0 I h => wpAny_execs_cons (wpAny_mono (p pins s σ H D h0 I h) (fun fl s1 z => by
    cases fl with
    | next => exact wpAny_execs_nil z
    | ret v => exact z
    | brk => exact z
    | cont => exact z) fun _ _ z => z), q⟩
theorem dss1_cons (h1 : Ds1 T cv X E st f) (h2 : Dss1 T cv X E rest g) : Dss1 T cv X E (st :: rest) (sSeq f g) := by
  obtain ⟨t, p, q⟩ := h1
  obtain ⟨t', p', q'⟩ := h2
  refine ⟨_, psst_cons p p', fun B r σ F H D rep h => ?_⟩
  refine q B r σ F H _ rep ?_
  have h : PoS T cv X.K B F E D (sSeq f g r) := h
  unfold sSeq at h
  cases ef : f r with
  | ok a r1 =>
    rw [ef] at h
    cases a with
    | nx => exact fun σ' F' H' s rep' => q' B r1 σ' F' H' D rep' (PoS.from s h)
    | ret d => exact h
  | exc c r1 =>
    rw [ef] at h
    exact h
  | bad =>
    rw [ef] at h
    exact h
end
end FB
/-! is_board, need_board: behind them a token is out. -/
namespace FB
open PySem PySem.Spec PyProof.Rows L2 L2H LamX
section
variable {T : List (Addr × Str)} {cv : Nat → Value} {X : Cx} {E : XK} {e a c r1 r2 : Expr} {st : Stmt} {rest : List Stmt} {pos np bp ip rp fp cp : Pos} {fa : M D} {f g : M Fl} {n : Int} {j j' cn : Nat} {o1 o2 : CmpOp} {ops : List CmpOp} {rs : List Expr}
theorem gs_first (h : DSs T cv X E (.If (.BoolOp .Or [a, .UnaryOp .Not (.Compare (.Constant (.int n) j cp) (o1 :: o2 :: ops) (r1 :: r2 :: rs) pos) np, c] bp) [.Return (some (.Constant (.bool false) j' fp)) rp] [] ip :: rest) f) :
    GS T cv 0 (fun u => u ≠ .bool false) X E (.If (.BoolOp .Or [a, .UnaryOp .Not (.Compare (.Constant (.int n) j cp) (o1 :: o2 :: ops) (r1 :: r2 :: rs) pos) np, c] bp) [.Return (some (.Constant (.bool false) j' fp)) rp] [] ip :: rest) f := by
  intro pins s B r σ F H D _ I rep q
  obtain ⟨t, p1, q1⟩ := h
  refine wpAny_mono (strict_first (p1.run pins s σ H D I (q1 B r σ F H D rep q))) (fun fl s' z => ⟨z.1, fun hz => z.2 fun e => ?_⟩) fun _ _ z => z
  subst e
  exact hz rfl
theorem gs_need (he : GE T cv 0 (fun u => u ≠ .bool false) X E e fa) (hs : DS T cv X E st (sRaise cn)) (hp : ∀ whole, isTrue e X.env whole = (do let v ← whole; standAt e.pos; holding [v] (truthy v)) := by intro _; rfl) :
    GS T cv 0 (fun _ => True) X E [.If (.UnaryOp .Not e np) [st] [] ip] (sIf (tNo (tV fa)) (sRaise cn) sNil) := by
  intro pins s B r σ F H D _ I rep h
  have hq : PoE T cv X.K B σ F E (fun v H' => ∃ b : Bool, v = .bl b ∧ ((b = true ∧ D.nx σ H') ∨ (b = false ∧ ∃ r1 F1, Rep T X.K B r1 σ F1 H' ∧ ∀ D', PoS T cv X.K B F1 E D' (sRaise cn r1)))) (fa r) := by
    unfold sIf tNo tV at h
    cases er : fa r with
    | ok d r1 =>
      rw [er] at h
      intro F' H' v s1 rep1 dv
      cases d with
      | bl b =>
        cases dv
        refine ⟨b, rfl, ?_⟩
        cases b with
        | true => exact .inl ⟨rfl, h σ F' H' s1 rep1⟩
        | false => exact .inr ⟨rfl, r1, F', rep1, fun D' => PoS.from s1 h⟩
      | _ => exact h.elim
    | exc c r1 =>
      rw [er] at h
      exact fun F' H' s1 rep1 => h σ F' H' s1 rep1
    | bad =>
      rw [er] at h
      exact h
  refine wpAny_execs_cons (wpAny_If (wpAny_isTrue_Not (isTrue_plain (wpAny_mono (he pins s B r σ F H _ (Nat.zero_le _) I rep hq) (fun u s1 z => ?_) fun _ _ z => z) (hp _))))
  obtain ⟨⟨v, H1, I1, rv, b, rfl, z⟩, hz⟩ := z
  cases rv
  refine wpAny_truthy_bool ?_
  rcases z with ⟨rfl, z⟩ | ⟨rfl, r1, F1, rep1, z⟩
  · exact wpAny_execs_nil (wpAny_execs_nil ⟨⟨σ, H1, I1, z⟩, fun _ => hz nofun⟩)
  · obtain ⟨t, p1, q1⟩ := hs
    refine wpAny_execs_cons (wpAny_mono (p1.run pins s1 σ H1 { nx := fun _ _ => False, rt := fun _ _ => False } I1 (q1 B r1 σ F1 H1 _ rep1 (z _))) (fun fl s2 y => ?_) fun _ _ y => y)
    cases fl with
    | next => obtain ⟨_, _, _, y⟩ := y; exact y.elim
    | ret v => obtain ⟨_, _, _, _, _, y⟩ := y; exact y.elim
    | brk => obtain ⟨_, _, _, y⟩ := y; exact False.elim y
    | cont => obtain ⟨_, _, _, y⟩ := y; exact False.elim y
theorem dss_exp1 (he : GE T cv 0 (fun _ => True) X E e fa) (h2 : Dss1 T cv X E rest g) (hs : swapsWith e none pos.line X.env = pure false := by rfl) : DSs T cv X E (.Expr e pos :: rest) (sSeq (sExp fa) g) := by
  refine GS.d (Z := fun _ => False) fun pins s B r σ F H D _ I rep h => ?_
  obtain ⟨t, p2, q2⟩ := h2
  have hq : PoE T cv X.K B σ F E (fun _ H' => t D σ H') (fa r) := by
    unfold sSeq sExp at h
    cases er : fa r with
    | ok d r1 =>
      rw [er] at h
      exact fun F' H' v s1 rep1 dv => q2 B r1 σ F' H' D rep1 (PoS.from s1 h)
    | exc c r1 =>
      rw [er] at h
      exact fun F' H' s1 rep1 => h σ F' H' s1 rep1
    | bad =>
      rw [er] at h
      exact h
  refine wpAny_execs_cons (wpAny_Expr_any (wpAny_mono (he pins s B r σ F H _ (Nat.zero_le _) I rep hq) (fun u s1 z => ?_) fun _ _ z => z) I.quiet hs)
  obtain ⟨⟨v, H1, I1, rv, z⟩, hz⟩ := z
  exact wpAny_mono (p2 pins s1 σ H1 D (hz trivial) I1 z) (fun _ _ y => ⟨y, False.elim⟩) fun _ _ y => y
end
end FB
/-! A comprehension, one token out. -/
namespace FB
open PySem PySem.Spec PyProof.Rows L2 L2H LamX
theorem thnT {α : Type} {t : Sem α} {Q Q' : α → Shared → Prop} {M : Model} {A : Around} {E : Value → Shared → Prop} {s : Shared} {n : Nat} (hn : n ≤ s.toks) (h : wpAny M A t Q (fun _ _ => False) s) (hQ : ∀ a s', n ≤ s'.toks → Q a s' → Q' a s') : wpAny M A t Q' E s :=
  wpAny_mono (wpAny_toks_of hn h) (fun a s' z => hQ a s' z.1 z.2) fun _ _ z => z.2.elim
section
variable {X : Cx}
theorem pet_lc {elt tg l : Expr} {scope : Scope} {own : List (Str × Nat)} {pos : Pos} {ifs : List Expr} {wi : TI} {g : TG} {tt : TT} {te : TE} (hc : X.calm = true) (hN : X.N.Nodup) (hl : PI X tg l wi) (ok : BlkOk X.N X.env.scope scope own)
    (hg : ∀ (s : Shared) (H : Hp) (C : Addr) (cl : List (Str × Addr)) (fp : List Addr), PG (X.blk s H scope (compEnvC scope cl C X.env) fp) tg g)
    (ht : ∀ (s : Shared) (H : Hp) (C : Addr) (cl : List (Str × Addr)) (fp : List Addr), PTs (X.blk s H scope (compEnvC scope cl C X.env) fp) ifs tt)
    (he : ∀ (s : Shared) (H : Hp) (C : Addr) (cl : List (Str × Addr)) (fp : List Addr), PET (X.blk s H scope (compEnvC scope cl C X.env) fp) elt te) (hs : ∀ x, foldedSetIterable l X.env x = pure x := by intro _; rfl) :
    PET X (.ListComp elt [⟨tg, l, ifs, 0⟩] scope pos) (tLc wi g tt te (own.map (·.2))) := by
  intro pins s σ H Q k0 I h
  rw [eval_ListComp]
  have hfree : ∀ y ∈ scope.names, y.2 = .free → ∃ c, X.env.cells.lookup y.1 = some c := fun y hy e => (ok.free y hy e).elim (fun k => I.ok.has _ (.inl k)) fun k => I.ok.has _ (.inr k)
  refine wpAny_comprehension_free (use := none) rfl hs (closure_ok hfree) ok.kind (fun y hy e => by rw [ok.uniq y hy, e]) (wpAny_mono (wpAny_toks_of k0 (hl.run pins s σ H _ I h)) (fun xv s1 z1 => ?_) fun _ _ z => z.2)
  obtain ⟨k1, z1⟩ := z1
  refine wpAny_mono (wpAny_toks_of k1 z1) (fun itv s2 z2 => ?_) fun _ _ z => z.2
  obtain ⟨k2, it, ft, tm, J, H1, e, I2, TT, st2, f2, q⟩ := z2
  subst e
  refine wpAny_newObj_type (newEnv_comp ?_) (by show 0 ≤ sizeLine; decide)
  generalize hDd : s2.heap.objs.size = Dd
  have nDd : H1 Dd = none := I2.hok.fresh (Nat.le_of_eq hDd)
  obtain ⟨W, ⟨m0, w0⟩, turn⟩ := q Dd nDd
  generalize hs3 : ({ s2 with heap := s2.heap.push { cls := .type "list", data := .seq ([] : List Value).toArray } } : Shared) = s3
  have k3 : 1 ≤ s3.toks := by
    rw [← hs3]
    exact k2
  have q3 : s3.heap = s2.heap.push { cls := .type "list", data := .seq ([] : List Value).toArray } := by rw [← hs3]
  have I3 : Inv X pins σ (upd H1 Dd (.lst [])) s3 := by
    rw [← hs3]
    refine I2.laid (t' := s2.toks) (fun b o e => Heap.get?_push_of_some _ e) (Nat.le_of_eq hDd) ⟨Nat.zero_le _, [], 0, .nil, ?_⟩
    rw [← hDd]
    exact Heap.get?_push_size _ rfl
  have ltF : ∀ b ∈ ft, b < s2.heap.objs.size := fun b hb => by
    obtain ⟨o, eo, _⟩ := TT.obj _ _ st2 b hb
    exact Heap.lt_size eo
  have fI : ∀ b ∈ ft, FpOk X pins (upd H1 Dd (.lst [])) b ∧ b < s3.heap.objs.size := fun b hb => by
    refine ⟨⟨?_, (f2 b hb).2⟩, by rw [q3, Heap.size_push]; exact Nat.lt_succ_of_lt (ltF b hb)⟩
    rw [upd_ne (by rw [← hDd]; exact Nat.ne_of_lt (ltF b hb))]
    exact (f2 b hb).1
  have st3 : tm 0 s3.heap := TT.keep _ _ _ st2 fun b _ o e => by rw [q3]; exact Heap.get?_push_of_some _ e
  have I4 := block_start (fp := ft) I3 ok hN fI
  have gg := hg s3 (upd H1 Dd (.lst [])) s3.heap.objs.size (cellsFrom (s3.heap.objs.size + 1) scope.names (cloFrom X.env.cells scope.names [])) ft
  have ge := he s3 (upd H1 Dd (.lst [])) s3.heap.objs.size (cellsFrom (s3.heap.objs.size + 1) scope.names (cloFrom X.env.cells scope.names [])) ft
  have gt := ht s3 (upd H1 Dd (.lst [])) s3.heap.objs.size (cellsFrom (s3.heap.objs.size + 1) scope.names (cloFrom X.env.cells scope.names [])) ft
  show codeAny _ _ (.compStart (.ListComp elt [⟨tg, l, ifs, 0⟩] scope pos) 0 (.ref it) (.ref Dd) (compEnvC scope (cellsFrom (s3.heap.objs.size + 1) scope.names (cloFrom X.env.cells scope.names [])) s3.heap.objs.size X.env)) (compPost (model X.prog X.w) X.A X.xe none _ (.ref Dd) s3.heap.objs.size) { s3 with heap := pushCells (s3.heap.push { cls := .type "dict", data := .dict #[] }) scope.names }
  generalize hce : compEnvC scope (cellsFrom (s3.heap.objs.size + 1) scope.names (cloFrom X.env.cells scope.names [])) s3.heap.objs.size X.env = ce at I4 gg gt ge ⊢
  have cL : ce.locals = s3.heap.objs.size := by subst hce; rfl
  have n3 : ∀ b ∈ ft, (upd H1 Dd (.lst [])) b = none := fun b hb => (fI b hb).1.1
  generalize hH3 : upd H1 Dd (.lst []) = H3 at I3 I4 gg gt ge w0 n3 fI
  generalize hs4 : ({ s3 with heap := pushCells (s3.heap.push { cls := .type "dict", data := .dict #[] }) scope.names } : Shared) = s4 at I4 ⊢
  have k4 : 1 ≤ s4.toks := by
    rw [← hs4]
    exact k3
  have st4 : tm 0 s4.heap := TT.keep _ _ _ st3 fun b _ o e => by
    rw [← hs4]
    exact pushCells_keeps _ _ _ _ (Heap.get?_push_of_some _ e)
  have stat : ∀ {σ' : L2.St} {H' : Hp} {s' : Shared}, Inv (X.blk s3 H3 scope ce ft) [] σ' H' s' → (∀ b ∈ ft, H' b = none) → ∀ b ∈ ft, FpOk (X.blk s3 H3 scope ce ft) [] H' b := fun {σ' H' s'} K' hn b hb =>
    ⟨hn b hb, (K'.ok.exf b hb).1, K'.ok.exfs b hb, .inl hb, fun y c e => (K'.ok.exf b hb).2 y c e, fun z hz => absurd (show z ∈ ([] : List (Addr × Obj)) ++ [] from hz) (by simp)⟩
  have loop : codeAny (model X.prog X.w) X.A (.compLoop (.ListComp elt [⟨tg, l, ifs, 0⟩] scope pos) 0 (.ref it) (.ref Dd) ce) (compPost (model X.prog X.w) X.A X.xe none (EP X pins σ Q) (.ref Dd) s3.heap.objs.size) s4 := by
    refine compLoop_any (fun n s' => 1 ≤ s'.toks ∧ ∃ i H', Inv (X.blk s3 H3 scope ce ft) [] (wipe σ (own.map (·.2))) H' s' ∧ tm i s'.heap ∧ (∀ b ∈ ft, H' b = none) ∧ W i n H') ?_ m0 ⟨k4, 0, H3, I4, st4, n3, w0⟩
    rintro n s5 ⟨k5, i, H5, I5, st5, n5, w5⟩
    rcases turn i n H5 w5 with ⟨stop, qq⟩ | ⟨go, Nx, hNx, step⟩
    · refine thnF (TT.done (X.blk s3 H3 scope ce ft) rfl rfl rfl hc i [] s5 _ H5 (fun _ _ => False) I5 (stat I5 n5) st5 stop) fun r s6 ⟨hr, I6⟩ => ?_
      subst hr
      have I7 : Inv X pins σ H5 s6 := I3.call' (ch := ft) I6.os I6.base I6.hok I6.bare fun b hb =>
        have z := (fI b hb).1
        ⟨z.2.2.2.1, z.2.1, z.2.2.2.2.1, z.2.2.2.2.2⟩
      have nC : H5 s3.heap.objs.size = none := by
        have z : H5 ce.locals = none := I6.free
        rwa [cL] at z
      obtain ⟨m, hn, _⟩ := I6.loc
      have hn : s6.heap.Ns ce.locals m := hn
      rw [cL] at hn
      refine ⟨m, hn, fun h9 sb => ?_⟩
      obtain ⟨g0, g1, g2, g3, g4, g5⟩ := I3.fpOk (Nat.le_refl _) nC
      exact ⟨.ref Dd, H5, I7.turned (t' := s6.toks) (fun b o hb e => (sb.2 b hb).trans e) g0 g1 g3 g4 g5, rfl, qq⟩
    · refine thnT k5 (TT.item (X.blk s3 H3 scope ce ft) rfl rfl rfl hc i [] s5 _ H5 (fun _ _ => False) I5 (stat I5 n5) st5 go) fun r s6 k6 ⟨u, hr, h6⟩ => ?_
      subst hr
      refine thnT k6 h6 fun _ s7 k7 ⟨x, H7, I7, r7, y7, st7, n7⟩ => ?_
      have I7p := I7.pinned (stat I7 n7) (TT.obj _ _ st7)
      refine thnT k7 (gg.run _ s7 _ H7 x u _ I7p r7 (step x H7 y7)) fun _ s8 k8 ⟨σ8, H8, I8, hw8, q8⟩ => ?_
      refine thnT k8 (gt.run _ s8 σ8 H8 _ I8 q8) fun b s9 k9 ⟨H9, I9, q9⟩ => ?_
      have fin : ∀ {s' : Shared} {H' : Hp}, 1 ≤ s'.toks → Inv (X.blk s3 H3 scope ce ft) ([] ++ pinsAt ft s7.heap) σ8 H' s' → Nx H' → ∃ m, m < n ∧ 1 ≤ s'.toks ∧ ∃ i H', Inv (X.blk s3 H3 scope ce ft) [] (wipe σ (own.map (·.2))) H' s' ∧ tm i s'.heap ∧ (∀ b ∈ ft, H' b = none) ∧ W i m H' := fun {s' H'} k' J' nx => by
        obtain ⟨m', hm, w'⟩ := hNx H' nx
        have pin' : ∀ b ∈ ft, ∀ o, s7.heap.get? b = some o → s'.heap.get? b = some o ∧ H' b = none := fun b hb o e => by
          have z := J'.pin (b, o) (List.mem_append_right _ (List.mem_append_right _ (mem_pinsAt hb e)))
          exact ⟨z.1, z.2.1⟩
        have hl8 : (wipe σ (own.map (·.2))).length = σ8.length := by rw [← hw8, wipe_length]
        refine ⟨m', hm, k', i + 1, H', (J'.unpinned (pins := [])).weak hl8 (fun j v e => ?_), TT.keep _ _ _ st7 fun b hb o e => (pin' b hb o e).1, fun b hb => ?_, w'⟩
        · rw [← hw8] at e
          exact (wipe_some e).1
        · obtain ⟨o, eo, _⟩ := TT.obj _ _ st7 b hb
          exact (pin' b hb o eo).2
      cases b with
      | false =>
        simp only [Bool.false_eq_true, if_false] at q9 ⊢
        exact fin k9 I9 q9
      | true =>
        simp only [if_true] at q9 ⊢
        refine thnT k9 (ge _ s9 σ8 H9 _ k9 I9 q9) fun z s10 k10 ⟨yv, H10, I10, r10, acc, hD10, hz10, nx⟩ => ?_
        exact wpAny_with_toks k10 (app_ok (X := X.blk s3 H3 scope ce ft) I10 hD10 hz10 r10 fun s11 I11 k11 => fin k11 I11 nx)
  exact codeAny_compStart_list loop (TT.self X.A 0 _ _ _ st4 loop)
end
end FB
/-! str.replace of a sign; calls and comprehensions, one token out. -/
namespace FB
open PySem PySem.Spec PyProof.Rows L2 L2H LamX
theorem join_splitR (c d : Nat) : ∀ s, joinL [d] (splitC c s) = s.map fun x => if x = c then d else x
  | [] => rfl
  | x :: xs => by
    have ih := join_splitR c d xs
    have ne := splitC_ne c xs
    rw [List.map_cons]
    unfold splitC
    by_cases e : x = c
    · rw [if_pos e, if_pos e]
      cases h : splitC c xs with
      | nil => exact absurd h ne
      | cons p r =>
        rw [h] at ih
        rw [← ih]
        rfl
    · rw [if_neg e, if_neg e]
      cases h : splitC c xs with
      | nil => exact absurd h ne
      | cons p r =>
        rw [h] at ih
        rw [← ih]
        cases r <;> rfl
theorem repl_codes (x y z : Str) (c d : Nat) (hy : y.cps = #[c]) (hz : z.cps = #[d]) : (Txt.replace x y z).cps.toList = x.cps.toList.map fun k => if k = c then d else k := by
  have ey : y = ⟨#[c]⟩ := by cases y; exact congrArg Str.mk hy
  rw [ey, StrLaws.replace_one, join_toList, split_codes x ⟨#[c]⟩ c rfl, hz]
  exact join_splitR c d _
section
variable (T : List (Addr × Str)) (cv : Nat → Value)
def Da1 (X : Cx) (E : XK) (es : List Expr) (f : M (List D)) : Prop := ∃ t, PAT X es t ∧ ∀ B r σ F H Q, Rep T X.K B r σ F H → PoA T cv X.K B σ F E Q (f r) → t σ H Q
end
section
variable {T : List (Addr × Str)} {cv : Nat → Value} {X : Cx} {E : XK} {e a b tg iter : Expr} {es : List Expr} {pos : Pos} {fa fb : M D} {fs fi : M (List D)}
theorem De1.pet (h : De1 T cv X E e fa) : PET X e (tD T cv X.K E fa) := by
  obtain ⟨t, p, q⟩ := h
  exact fun pins s σ H Q k0 I ⟨B, r, F, rep, h⟩ => p pins s σ H Q k0 I (q B r σ F H Q rep h)
theorem de1_repl {y z : Str} {c d : Nat} {j k : Nat} {c0 c1 apos : Pos} (hy : Tx y [c]) (hz : Tx z [d]) (hyz : (y == z) = false) (ha : DE T cv X E a fa)
    (h : (y == z) = false → ∀ {ta : TE}, PE X a ta → PET X (.Call (.Attribute a "replace" apos) [.Constant (.str y) j c0, .Constant (.str z) k c1] [] pos) (CwR.tReplC ta y z) := by intro q ta p; exact CwR.pet_replC p q) :
    De1 T cv X E (.Call (.Attribute a "replace" apos) [.Constant (.str y) j c0, .Constant (.str z) k c1] [] pos) (e1 (mRepl c d) fa) := by
  obtain ⟨ta, pa, qa⟩ := ha
  refine ⟨_, h hyz pa, fun B r σ F H Q rep h => ?_⟩
  refine qa B r σ F H _ rep (Po.bind h fun dd r1 F1 H1 v er s1 rep1 dv h1 => ?_)
  obtain ⟨w, ez, q⟩ := h1.lift
  cases dv with
  | str x hx1 hx2 =>
    have ez : (if x.cps.toList.length ≤ 10000 then some (D.str (x.cps.toList.map fun k => if k = c then d else k)) else none) = some w := ez
    split at ez
    · rename_i hl
      cases ez
      have hyc : y.cps = #[c] := Array.toList_inj.mp hy.eq
      have hzc : z.cps = #[d] := Array.toList_inj.mp hz.eq
      have hr := repl_codes x y z c d hyc hzc
      have hx : x.length ≤ 10000 := by
        show x.cps.size ≤ 10000
        simpa using hl
      have hzl : z.length = 1 := by
        show z.cps.size = 1
        rw [hzc]
        rfl
      refine ⟨x, rfl, by rw [hzl]; omega, q F1 H1 _ (Same.refl _) rep1 ?_⟩
      rw [← hr]
      refine .str _ ?_ ?_
      · have e1 : (Txt.replace x y z).cps.toList.length = x.cps.toList.length := by rw [hr, List.length_map]
        rw [Array.length_toList] at e1
        rw [e1]
        exact Nat.le_trans hl (by decide)
      · have hz3 := hz.ok
        unfold PyData.strOk at hx2 hz3 ⊢
        rw [← Array.all_toList] at hx2 hz3 ⊢
        rw [hz.eq] at hz3
        rw [List.all_eq_true] at hx2 ⊢
        intro k hk
        rw [hr] at hk
        obtain ⟨k', h1, h2⟩ := List.mem_map.mp hk
        have h3 := hx2 k' h1
        have h4 : decide (d < 0x110000) = true := by simpa using hz3
        by_cases e : k' = c
        · rw [if_pos e] at h2
          rw [← h2]
          exact h4
        · rw [if_neg e] at h2
          rw [← h2]
          exact h3
    · cases ez
  | _ => cases ez
theorem da1_nil : Da1 T cv X E [] aN := ⟨_, pat_nil, fun B r σ F H Q rep h => h F H [] (Same.refl _) rep .nil⟩
theorem da1_cons (ha : De1 T cv X E e fa) (hr : Da1 T cv X E es fs) (hs : starEach (e :: es) X.env = (false, eval e X.env) :: starEach es X.env := by rfl) : Da1 T cv X E (e :: es) (aC fa fs) := by
  obtain ⟨t, p, q⟩ := ha
  obtain ⟨t', p', q'⟩ := hr
  refine ⟨_, pat_cons p p' hs, fun B r σ F H Q rep h => ?_⟩
  refine q B r σ F H _ rep (Po.bind h fun d r1 F1 H1 x _ s1 rep1 dx h1 => ?_)
  refine q' B r1 σ F1 H1 _ rep1 (Po.bind h1 fun ds r2 F2 H2 xs _ s2 rep2 dxs h2 => ?_)
  exact h2 F2 H2 (x :: xs) (Same.refl _) rep2 (.cons (dx.mono s2) dxs)
theorem pet_callTy {x : Str} {id : String} {p : Pos} {rr : List V → Hp → VK → Prop} {t : TA} (hc : CallR X (.type id) rr) (hg : Gl X x) (hm : X.mg x = none) (hv : bootBuiltins x = some (.type id)) (ha : PAT X (e :: es) t) (hn : x ≠ "__name__" := by decide) (hdb : (x == ("__debug__" : Str)) = false := by decide)
    (he : starEach (e :: es) X.env = (false, eval e X.env) :: starEach es X.env := by rfl) (hpl : (backTo pos (starEach es X.env)).any (·.1) = false := by rfl) : PET X (.Call (.Name x p) (e :: es) [] pos) (tCB rr t) := by
  intro pins s σ H Q k0 I h
  refine wpAny_Call_Name_kw (ld_blt I hg hm hv ?_ hn hdb)
  exact PyProof.Rows.callWith_type1 (thn (ha pos pins s σ H _ k0 I h) fun us s1 z => by
    obtain ⟨vs, H1, I1, r1, q1⟩ := z
    exact hc pins s1 σ H1 vs us Q I1 r1 q1) he hpl
theorem de1_callTy {x : Str} {id : String} {p : Pos} {rr : List V → Hp → VK → Prop} {f : List D → Option D} (hc : CallR X (.type id) rr) (o : OpN T X.K rr f) (hg : Gl X x) (hm : X.mg x = none) (hv : bootBuiltins x = some (.type id)) (ha : Da1 T cv X E (e :: es) fs) (hn : x ≠ "__name__" := by decide) (hdb : (x == ("__debug__" : Str)) = false := by decide)
    (he : starEach (e :: es) X.env = (false, eval e X.env) :: starEach es X.env := by rfl) (hpl : (backTo pos (starEach es X.env)).any (·.1) = false := by rfl) : De1 T cv X E (.Call (.Name x p) (e :: es) [] pos) (eB f fs) := by
  obtain ⟨t, pp, q⟩ := ha
  refine ⟨_, pet_callTy hc hg hm hv pp hn hdb he hpl, fun B r σ F H Q rep h => ?_⟩
  refine q B r σ F H _ rep (Po.bind h fun ds r1 F1 H1 xs er s1 rep1 dxs h1 => ?_)
  obtain ⟨z, ez, q⟩ := h1.lift
  exact o B r1 σ F1 H1 xs ds z Q rep1 dxs ez q
theorem de1_lc {elt : Expr} {ifs : List Expr} {scope : Scope} {own : List (Str × Nat)} {g : Tg} {tt : M Bool} {te : M D} (hc : X.calm = true) (hN : X.N.Nodup) (hi : DI T cv X E tg iter fi) (ok : BlkOk X.N X.env.scope scope own)
    (hg : ∀ (s : Shared) (H : Hp) (C : Addr) (cl : List (Str × Addr)) (fp : List Addr), DG T (X.blk s H scope (compEnvC scope cl C X.env) fp) tg g (own.map (·.2)))
    (ht : ∀ (s : Shared) (H : Hp) (C : Addr) (cl : List (Str × Addr)) (fp : List Addr), DTs T cv (X.blk s H scope (compEnvC scope cl C X.env) fp) E0 ifs tt)
    (he : ∀ (s : Shared) (H : Hp) (C : Addr) (cl : List (Str × Addr)) (fp : List Addr), De1 T cv (X.blk s H scope (compEnvC scope cl C X.env) fp) E0 elt te) (hs : ∀ x, foldedSetIterable iter X.env x = pure x := by intro _; rfl) :
    De1 T cv X E (.ListComp elt [⟨tg, iter, ifs, 0⟩] scope pos) (eLc fi g tt te (own.map (·.2))) := by
  obtain ⟨wi, pi, qi⟩ := hi
  refine ⟨_, pet_lc (g := gD T X.K g (own.map (·.2))) (tt := tDT T cv X.K E0 tt) (te := tD T cv X.K E0 te) hc hN pi ok (fun s H C cl fp => (hg s H C cl fp).pg) (fun s H C cl fp => (ht s H C cl fp).pts) (fun s H C cl fp => (he s H C cl fp).pet) hs, fun B r σ F H Q rep h => ?_⟩
  refine qi B r σ F H _ rep (Po.bind h fun xs r1 F1 H1 J er s1 rep1 wk h1 => ?_)
  intro Dl hD
  split at h1
  · rename_i hcond
    cases run : lcGo g tt te (own.map (·.2)) xs [] (wipeE (own.map (·.2)) r1) with
    | ok ys r2 =>
      rw [run] at h1
      exact lc_read rep1 wk hcond.1 hcond.2 run h1 Dl hD
    | exc c r2 =>
      rw [run] at h1
      exact h1.elim
    | bad =>
      rw [run] at h1
      exact h1.elim
  · exact h1.elim
end
end FB
/-! dict(pairs of texts) and its items. -/
namespace FB
open PySem PySem.Spec L2
theorem lt1 {n c : Nat} (h : n + 65 < c) : n + 1 < c := by omega
theorem Flat.dv {K : PySem.W.Frag} {F : Hp} {v : V} {d : D} (h : Flat v d) : Dv K F v d := by
  cases h with
  | str x h1 h2 => exact .str x h1 h2
  | bl b => exact .bl b
end FB
/-! a, b, c = x, y, z -/
namespace FB
open PySem PySem.Spec L2
section
variable {T : List (Addr × Str)} {cv : Nat → Value} {X : Cx} {E : XK} {a b c : Expr} {pos : Pos} {fa fb fc : M D}
theorem asg_par3 (i j l : Nat) : sAsg (gT [i, j, l]) (eTup (aC fa (aC fb (aC fc aN)))) = sPar3 i j l fa fb fc := by
  funext r
  unfold sAsg sPar3 eTup aC
  cases fa r with
  | ok x r1 =>
    simp only [R.andThen]
    cases fb r1 with
    | ok y r2 =>
      simp only [R.andThen]
      cases fc r2 with
      | ok z r3 => simp [R.andThen, aN, gT, setAll]
      | exc => rfl
      | bad => rfl
    | exc => rfl
    | bad => rfl
  | exc => rfl
  | bad => rfl
theorem ds_par3 {i j l : Nat} {x y z : Str} {px py pz pt : Pos} {kt k2 : Nat} {pt2 : Pos} (hc : X.calm = true) (hN : X.N.Nodup) (hi : X.N[i]? = some x) (hj : X.N[j]? = some y) (hl : X.N[l]? = some z) (hij : i ≠ j) (hil : i ≠ l) (hjl : j ≠ l)
    (hx : X.env.scope.names.lookup x = some .local) (hy : X.env.scope.names.lookup y = some .local) (hz : X.env.scope.names.lookup z = some .local) (ha : DE T cv X E a fa) (hb : DE T cv X E b fb) (hc3 : DE T cv X E c fc)
    (hw : swappedStores [.Tuple [.Name x px, .Name y py, .Name z pz] kt pt] (.Tuple [a, b, c] k2 pt2) X.env = pure (some [x, y, z]))
    (hs : swapsWithSole [.Tuple [.Name x px, .Name y py, .Name z pz] kt pt] (.Tuple [a, b, c] k2 pt2) pos.line X.env = pure false := by rfl)
    (h1 : starEach [a, b, c] X.env = (false, eval a X.env) :: starEach [b, c] X.env := by rfl) (h2 : starEach [b, c] X.env = (false, eval b X.env) :: starEach [c] X.env := by rfl) (h3 : starEach [c] X.env = (false, eval c X.env) :: starEach [] X.env := by rfl) :
    DS T cv X E (.Assign [.Tuple [.Name x px, .Name y py, .Name z pz] kt pt] (.Tuple [a, b, c] k2 pt2) pos) (sAsg (gT [i, j, l]) (eTup (aC fa (aC fb (aC fc aN))))) := by
  rw [asg_par3]
  obtain ⟨t, p, q⟩ := ha
  obtain ⟨t', p', q'⟩ := hb
  obtain ⟨t3, p3, q3⟩ := hc3
  refine ⟨_, ps_par3 hc hN hi hj hl hij hil hjl hx hy hz (pa_cons p (pa_cons p' (pa_cons p3 pa_nil h3) h2) h1) hw hs, fun B r σ F H D rep h => ?_⟩
  refine q B r σ F H _ rep (PoS.bind h fun d r1 F1 H1 v er s1 rep1 dv h1 => ?_)
  refine q' B r1 σ F1 H1 _ rep1 (PoS.bind h1 fun d2 r2 F2 H2 w er2 s2 rep2 dw h2 => ?_)
  refine q3 B r2 σ F2 H2 _ rep2 (PoS.bind h2 fun d3 r3 F3 H3 u er3 s3 rep3 du h3 => ?_)
  exact ⟨v, w, u, rfl, h3 _ _ _ (Same.refl _) (((rep3.set_dat i (dv.mono (s2.trans s3))).set_dat j (dw.mono s3)).set_dat l du)⟩
end
end FB
namespace FB
def B__law_cell : M Fl :=
  sSeq (sIf (tV (e2 opEq (eV 0) (eLst aN))) (sRet (e2 opMul (eV 1) (eC (.int 7919)))) (sNil))
  (sRet (e2 opAdd (e2 opIx (eV 0) (e2 opMod (eV 1) (eB bLen (aC (eV 0) aN)))) (e2 opMul (e2 opFdiv (eV 1) (eB bLen (aC (eV 0) aN))) (eC (.int 104729)))))
def D__law_cell : List D → Ro := runD 2 2 B__law_cell
def B__law_drawn : M Fl :=
  sSeq (sSet 2 (e2 opMod (e2 opAdd (e2 opMul (eV 0) (eC (.int 6364136223846793005))) (e2 opMul (e2 opAdd (eV 1) (eC (.int 1))) (eC (.int 1442695040888963407)))) (eC (.int 340282366920938463463374607431768211507))))
  (sSeq (sSet 2 (e2 opMod (e2 opMul (eV 2) (eV 2)) (eC (.int 340282366920938463463374607431768211297))))
  (sSeq (sSet 2 (e2 opMul (e2 opMul (e2 opAdd (e2 opMod (eV 2) (eC (.int 18446744073709551557))) (eC (.int 1))) (e2 opAdd (e2 opFdiv (eV 2) (eC (.int 18446744073709551557))) (eC (.int 1)))) (eV 2)))
  (sRet (e2 opMod (eV 2) (eC (.int 340282366920938463463374607431768211507))))))
def D__law_drawn : List D → Ro := runD 2 3 B__law_drawn
def B__law_roll : M Fl :=
  sSeq (sIf (tV (e2 opGe (eIxO 0 (eC (.int 0))) (e2 opPow (eC (.int 10)) (eC (.int 18))))) (sSeq (sSet 2 (e2 opMod (eIxO 0 (eC (.int 0))) (eV 1)))
    (sSeq (sPut 0 0 (e2 opFdiv (eIxO 0 (eC (.int 0))) (eV 1)))
    (sRet (eV 2)))) (sNil))
  (sSeq (sPut 0 1 (e2 opAdd (eIxO 0 (eC (.int 1))) (eC (.int 1))))
  (sRet (e2 opMod (e2 opFdiv (eCall D__law_drawn (aC (eIxO 0 (eC (.int 0))) (aC (eIxO 0 (eC (.int 1))) aN))) (eC (.int 8))) (eV 1))))
def D__law_roll : List D → List D → Rw := runO 2 3 B__law_roll
def B__law_any_board : M Fl :=
  sSeq (sPar 2 3 (e2 opAdd (eC (.int 1)) (eCallO D__law_roll 0 (aC (eC (.int 4)) aN))) (e2 opAdd (eC (.int 1)) (eCallO D__law_roll 0 (aC (eC (.int 4)) aN))))
  (sSeq (sWhile (tV (e2 opGt (e2 opMul (eV 2) (eV 3)) (eV 1))) (sAsg (gT [2, 3]) (eIf (tV (e2 opGe (eV 2) (eV 3))) (eTup (aC (e2 opSub (eV 2) (eC (.int 1))) (aC (eV 3) aN))) (eTup (aC (eV 2) (aC (e2 opSub (eV 3) (eC (.int 1))) aN))))) 1000)
  (sSeq (sSet 4 (e2 opIx (eLst (aC (eC (.str [35, 46])) (aC (eC (.str [35, 46, 35, 46, 35, 46, 42])) (aC (eC (.str [35, 46, 35, 46, 35, 46, 35, 46, 42, 111])) (aC (eC (.str [35, 35, 46])) (aC (eC (.str [35, 46, 46])) aN)))))) (eCallO D__law_roll 0 (aC (eC (.int 5)) aN))))
  (sSeq (sNewL 5 aN)
  (sSeq (sFor (iRange1 (aC (eV 2) aN)) (gN 6) (sApp 5 (e1 (mJoin (.str [])) (eLc (iRange1 (aC (eV 3) aN)) (gN 7) tY (e2 opIx (eV 4) (eCallO D__law_roll 0 (aC (eB bLen (aC (eV 4) aN)) aN))) [7]))))
  (sFrz 5 (sRet (eB bTuple (aC (eV 5) aN))))))))
def D__law_any_board : List D → List D → Rw := runO 2 8 B__law_any_board
def B__law_free : M Fl :=
  sSeq (sSet 1 (eLst aN))
  (sSeq (sFor (iEnum (iT (eV 0))) (gT [2, 3]) (sSet 1 (e2 opAdd (eV 1) (eLc (iEnum (iS (eV 3))) (gT [4, 5]) (tV (e2 opInS (eV 5) (eC (.str [35, 46])))) (eTup (aC (eV 2) (aC (eV 4) aN))) [4, 5]))))
  (sRet (eV 1)))
def D__law_free : List D → Ro := runD 1 6 B__law_free
def B__law_some : M Fl :=
  sSeq (sSet 2 (e2 opAdd (eC (.int 2)) (eCallO D__law_roll 0 (aC (eC (.int 2)) aN))))
  (sRet (eB bTuple (aC (eLc (iL (eV 1)) (gN 3) (tV (e2 opEq (eCallO D__law_roll 0 (aC (eV 2) aN)) (eC (.int 0)))) (eV 3) [3]) aN)))
def D__law_some : List D → List D → Rw := runO 2 4 B__law_some
def B_is_row : M Fl :=
  sRet (eAn (e1 (isTy 2) (eV 0)) (eAn (e2 opEq (eB bLen (aC (eV 0) aN)) (eV 1)) (eB bAll (aC (eLc (iS (eV 0)) (gN 2) tY (e2 opInS (eV 2) (eC (.str [35, 46, 42, 111]))) [2]) aN))))
def D_is_row : List D → Ro := runD 2 3 B_is_row
def B_is_board : M Fl :=
  sSeq (sIf (tOr (tNo (tV (e1 (isTy 3) (eV 0)))) (tOr (tNo (tV (eCh opLe opLe (eC (.int 1)) (eB bLen (aC (eV 0) aN)) (eC (.int 4))))) (tNo (tV (e1 (isTy 2) (e2 opIx (eV 0) (eC (.int 0)))))))) (sRet (eC (.bl false))) (sNil))
  (sSeq (sSet 1 (eB bLen (aC (e2 opIx (eV 0) (eC (.int 0))) aN)))
  (sSeq (sIf (tOr (tNo (tV (eCh opLe opLe (eC (.int 1)) (eV 1) (eC (.int 4))))) (tV (e2 opGt (e2 opMul (eV 1) (eB bLen (aC (eV 0) aN))) (eC (.int 12))))) (sRet (eC (.bl false))) (sNil))
  (sRet (eB bAll (aC (eLc (iT (eV 0)) (gN 2) tY (eCall D_is_row (aC (eV 2) (aC (eV 1) aN))) [2]) aN)))))
def D_is_board : List D → Ro := runD 1 3 B_is_board
def B_need_board : M Fl :=
  sIf (tNo (tV (eCall D_is_board (aC (eV 0) aN)))) (sRaise 1) (sNil)
def D_need_board : List D → Ro := runD 1 1 B_need_board
def B_free_cells : M Fl :=
  sSeq (sSet 1 (eLst aN))
  (sSeq (sFor (iEnum (iT (eV 0))) (gT [2, 3]) (sSet 1 (e2 opAdd (eV 1) (eLc (iEnum (iS (eV 3))) (gT [4, 5]) (tV (e2 opInS (eV 5) (eC (.str [35, 46])))) (eTup (aC (eV 2) (aC (eV 4) aN))) [4, 5]))))
  (sRet (eV 1)))
def D_free_cells : List D → Ro := runD 1 6 B_free_cells
def B_is_whole : M Fl :=
  sRet (eAn (e1 (isTy 0) (eV 0)) (eAn (eNo (e1 (isTy 1) (eV 0))) (eCh opLe opLe (eV 1) (eV 0) (eV 2))))
def D_is_whole : List D → Ro := runD 3 3 B_is_whole
def B__law_laid : M Fl :=
  sSeq (sNewL 2 aN)
  (sSeq (sFor (iEnum (iT (eV 0))) (gT [3, 4]) (sSeq (sNewL 5 aN)
    (sSeq (sFor (iEnum (iS (eV 4))) (gT [6, 7]) (sApp 5 (eIf (tV (e2 opInS (eV 7) (eC (.str [42, 111])))) (eV 7) (eIf (tV (e2 opIn (eTup (aC (eV 3) (aC (eV 6) aN))) (eV 1))) (eC (.str [35])) (eC (.str [46]))))))
    (sFrz 5 (sApp 2 (e1 (mJoin (.str [])) (eV 5)))))))
  (sFrz 2 (sRet (eB bTuple (aC (eV 2) aN)))))
def D__law_laid : List D → Ro := runD 2 8 B__law_laid
def B_ice_at : M Fl :=
  sRet (e2 opInS (e2 opIx (e2 opIx (eV 0) (e2 opIx (eV 1) (eC (.int 0)))) (e2 opIx (eV 1) (eC (.int 1)))) (eC (.str [35, 42])))
def D_ice_at : List D → Ro := runD 2 2 B_ice_at
def B_neighbours : M Fl :=
  sSeq (sAsg (gT [2, 3]) (eV 1))
  (sSeq (sSet 4 (eLst (aC (eTup (aC (e2 opSub (eV 2) (eC (.int 1))) (aC (eV 3) aN))) (aC (eTup (aC (eV 2) (aC (e2 opSub (eV 3) (eC (.int 1))) aN))) (aC (eTup (aC (eV 2) (aC (e2 opAdd (eV 3) (eC (.int 1))) aN))) (aC (eTup (aC (e2 opAdd (eV 2) (eC (.int 1))) (aC (eV 3) aN))) aN))))))
  (sRet (eLc (iL (eV 4)) (gT [5, 6]) (tAn (tV (eCh opLe opLt (eC (.int 0)) (eV 5) (eB bLen (aC (eV 0) aN)))) (tV (eCh opLe opLt (eC (.int 0)) (eV 6) (eB bLen (aC (e2 opIx (eV 0) (eC (.int 0))) aN))))) (eTup (aC (eV 5) (aC (eV 6) aN))) [5, 6])))
def D_neighbours : List D → Ro := runD 2 7 B_neighbours
def B_next_sign : M Fl :=
  sSeq (sSet 3 (e2 opIx (e2 opIx (eV 0) (eV 1)) (eV 2)))
  (sSeq (sIf (tV (e2 opInS (eV 3) (eC (.str [42, 111])))) (sRet (eV 3)) (sNil))
  (sSeq (sSet 4 (eLc (iL (eCall D_neighbours (aC (eV 0) (aC (eTup (aC (eV 1) (aC (eV 2) aN))) aN)))) (gN 6) tY (eCall D_ice_at (aC (eV 0) (aC (eV 6) aN))) [6]))
  (sSeq (sSet 5 (eB bLen (aC (eLc (iL (eV 4)) (gN 7) (tV (eV 7)) (eV 7) [7]) aN)))
  (sRet (eIf (tV (e2 opEq (e2 opMul (eC (.int 2)) (eV 5)) (eB bLen (aC (eV 4) aN)))) (eV 3) (eIf (tV (e2 opGt (e2 opMul (eC (.int 2)) (eV 5)) (eB bLen (aC (eV 4) aN)))) (eC (.str [35])) (eC (.str [46]))))))))
def D_next_sign : List D → Ro := runD 3 8 B_next_sign
def B_ticked : M Fl :=
  sSeq (sSet 1 (eB bLen (aC (e2 opIx (eV 0) (eC (.int 0))) aN)))
  (sRet (eB bTuple (aC (eLc (iRange1 (aC (eB bLen (aC (eV 0) aN)) aN)) (gN 2) tY (e1 (mJoin (.str [])) (eLc (iRange1 (aC (eV 1) aN)) (gN 3) tY (eCall D_next_sign (aC (eV 0) (aC (eV 2) (aC (eV 3) aN)))) [3])) [2]) aN)))
def D_ticked : List D → Ro := runD 1 4 B_ticked
def B_exchanged : M Fl :=
  sSeq (sExp (eCall D_need_board (aC (eV 0) aN)))
  (sRet (eB bTuple (aC (eLc (iT (eV 0)) (gN 1) tY (e1 (mJoin (.str [])) (eLc (iS (eV 1)) (gN 2) tY (e1 tabO (eV 2)) [2])) [1]) aN)))
def D_exchanged : List D → Ro := runD 1 3 B_exchanged
def B_bare : M Fl :=
  sRet (eB bTuple (aC (eLc (iT (eV 0)) (gN 1) tY (e1 (mRepl 35 46) (eV 1)) [1]) aN))
def D_bare : List D → Ro := runD 1 2 B_bare
def B__law_ice : M Fl :=
  sRet (e2 opInS (e2 opIx (e2 opIx (eV 0) (e2 opIx (eV 1) (eC (.int 0)))) (e2 opIx (eV 1) (eC (.int 1)))) (eC (.str [35, 42])))
def D__law_ice : List D → Ro := runD 2 2 B__law_ice
def B__law_near : M Fl :=
  sSeq (sNewL 2 aN)
  (sSeq (sFor (iEnum (iT (eV 0))) (gT [3, 4]) (sFor (iRange1 (aC (eB bLen (aC (eV 4) aN)) aN)) (gN 5) (sIf (tV (e2 opEq (e2 opAdd (eB bAbs (aC (e2 opSub (eV 3) (e2 opIx (eV 1) (eC (.int 0)))) aN)) (eB bAbs (aC (e2 opSub (eV 5) (e2 opIx (eV 1) (eC (.int 1)))) aN))) (eC (.int 1)))) (sApp 2 (eTup (aC (eV 3) (aC (eV 5) aN)))) (sNil))))
  (sFrz 2 (sRet (eV 2))))
def D__law_near : List D → Ro := runD 2 6 B__law_near
def B__law_ticked : M Fl :=
  sSeq (sNewL 1 aN)
  (sSeq (sFor (iL (eCall D__law_free (aC (eV 0) aN))) (gN 2) (sSeq (sSet 3 (eLc (iL (eCall D__law_near (aC (eV 0) (aC (eV 2) aN)))) (gN 6) tY (eCall D__law_ice (aC (eV 0) (aC (eV 6) aN))) [6]))
    (sSeq (sSet 4 (eCnt (eV 3) (eC (.bl true))))
    (sSeq (sSet 5 (e2 opSub (eB bLen (aC (eV 3) aN)) (eV 4)))
    (sIf (tOr (tV (e2 opGt (eV 4) (eV 5))) (tAn (tV (e2 opEq (eV 4) (eV 5))) (tV (eCall D__law_ice (aC (eV 0) (aC (eV 2) aN)))))) (sApp 1 (eV 2)) (sNil))))))
  (sFrz 1 (sRet (eCall D__law_laid (aC (eV 0) (aC (eV 1) aN))))))
def D__law_ticked : List D → Ro := runD 1 7 B__law_ticked
def B_need_ticks : M Fl :=
  sIf (tNo (tV (eCall D_is_whole (aC (eV 0) (aC (eC (.int 0)) (aC (eC (.int 100)) aN)))))) (sRaise 4) (sNil)
def D_need_ticks : List D → Ro := runD 1 1 B_need_ticks
def B_later : M Fl :=
  sSeq (sFor (iRange1 (aC (eV 1) aN)) (gN 2) (sSet 0 (eCall D_ticked (aC (eV 0) aN))))
  (sRet (eV 0))
def D_later : List D → Ro := runD 2 3 B_later
def B_after : M Fl :=
  sSeq (sExp (eCall D_need_board (aC (eV 0) aN)))
  (sSeq (sExp (eCall D_need_ticks (aC (eV 1) aN)))
  (sRet (eCall D_later (aC (eV 0) (aC (eV 1) aN)))))
def D_after : List D → Ro := runD 2 2 B_after
def B_fate_of : M Fl :=
  sSeq (sSet 1 (eC (.int 0)))
  (sWhile (tV (eC (.bl true))) (sSeq (sSet 2 (eCall D_ticked (aC (eV 0) aN)))
    (sSeq (sIf (tV (e2 opEq (eV 2) (eV 0))) (sRet (eTup (aC (eV 1) (aC (eC (.int 1)) aN)))) (sNil))
    (sSeq (sIf (tV (e2 opEq (eCall D_ticked (aC (eV 2) aN)) (eV 0))) (sRet (eTup (aC (eV 1) (aC (eC (.int 2)) aN)))) (sNil))
    (sPar 0 1 (eV 2) (e2 opAdd (eV 1) (eC (.int 1))))))) 1000)
def D_fate_of : List D → Ro := runD 1 3 B_fate_of
def B_need_pair : M Fl :=
  sSeq (sExp (eCall D_need_board (aC (eV 0) aN)))
  (sSeq (sExp (eCall D_need_board (aC (eV 1) aN)))
  (sIf (tV (e2 opNe (eCall D_bare (aC (eV 0) aN)) (eCall D_bare (aC (eV 1) aN)))) (sRaise 7) (sNil)))
def D_need_pair : List D → Ro := runD 2 2 B_need_pair
def B_meet : M Fl :=
  sSeq (sExp (eCall D_need_pair (aC (eV 0) (aC (eV 1) aN))))
  (sSeq (sFor (iRange1 (aC (e2 opAdd (eB bMax (aC (e2 opIx (eCall D_fate_of (aC (eV 0) aN)) (eC (.int 0))) (aC (e2 opIx (eCall D_fate_of (aC (eV 1) aN)) (eC (.int 0))) aN))) (eC (.int 1))) aN)) (gN 2) (sSeq (sIf (tV (e2 opEq (eV 0) (eV 1))) (sRet (eV 2)) (sNil))
    (sPar 0 1 (eCall D_ticked (aC (eV 0) aN)) (eCall D_ticked (aC (eV 1) aN)))))
  (sRet (eC .non)))
def D_meet : List D → Ro := runD 2 3 B_meet
def FI_rounds : M (List D) := iRange1 (aC (eB bMax (aC (eC (.int 1)) (aC (eB bMin (aC (eV 1) (aC (eB bLen (aC (eV 0) aN)) aN))) aN))) aN)
def TE_rounds : M D := eCall D__law_cell (aC (eV 0) (aC (eV 2) aN))
theorem cell_plain {ns : List Int} (hl : ns.length ≤ 63) (i : Nat) : ∃ c, D__law_cell [.fz ns, .int i] = .ok (.int c) := by
  cases ns with
  | nil =>
    refine ⟨(i : Int) * 7919, ?_⟩
    have h : mulOk (i : Int) 7919 = true := rfl
    simp [D__law_cell, runD, B__law_cell, startE, sSeq, sIf, sNil, sRet, tV, e2, eV, eC, eLst, aN, R.andThen, R.lift, opEq, pyEq, opMul, fin0, h]
  | cons n ns =>
    have hl : ns.length ≤ 62 := by simpa using hl
    have h0 : (0 : Int) < ((ns.length : Int) + 1) := by omega
    have h1 : Nat.log2 (((ns.length : Int) + 1).natAbs) < 9000 := by
      have e : ((ns.length : Int) + 1).natAbs = ns.length + 1 := by omega
      rw [e]
      exact Nat.lt_of_le_of_lt (Nat.log2_le_self _) (by omega)
    have h2 : (0 : Int) ≤ (i : Int) % ((ns.length : Int) + 1) := Int.emod_nonneg _ (by omega)
    have h3 : (i : Int) % ((ns.length : Int) + 1) < (ns.length : Int) + 1 := Int.emod_lt_of_pos _ h0
    obtain ⟨z, hz⟩ : ∃ z, (n :: ns)[((i : Int) % ((ns.length : Int) + 1)).toNat]? = some z := ⟨_, List.getElem?_eq_getElem (by rw [List.length_cons]; omega)⟩
    have h4 : mulOk ((i : Int) / ((ns.length : Int) + 1)) 104729 = true := rfl
    refine ⟨z + (i : Int) / ((ns.length : Int) + 1) * 104729, ?_⟩
    simp [D__law_cell, runD, B__law_cell, startE, sSeq, sIf, sNil, sRet, tV, e2, eV, eC, eLst, eB, aC, aN, R.andThen, R.lift, opEq, pyEq, opMul, opMod, opFdiv, opAdd, opIx, atD, bLen, fin0, h0, h1, h2, h4, hz]
theorem rounds_plain {ns : List Int} {m : Int} (hl : ns.length ≤ 63) (hm : m ≤ 1000) : ∃ xs, FI_rounds [.dat (.fz ns), .dat (.int m), .un] = .ok xs [.dat (.fz ns), .dat (.int m), .un] ∧ xs.length ≤ lim ∧ ∀ x ∈ xs, ∃ c, TE_rounds [.dat (.fz ns), .dat (.int m), .dat x] = .ok (.int c) [.dat (.fz ns), .dat (.int m), .dat x] := by
  have e : ∃ k : Int, k ≤ 1000 ∧ 1 ≤ k ∧ FI_rounds [.dat (.fz ns), .dat (.int m), .un] = .ok ((List.range k.toNat).map fun i => .int (i : Nat)) [.dat (.fz ns), .dat (.int m), .un] := by
    by_cases h : (ns.length : Int) < m
    · by_cases h' : (1 : Int) < (ns.length : Int)
      · exact ⟨ns.length, by omega, by omega, by simp [FI_rounds, iRange1, aC, aN, eB, eC, eV, R.andThen, R.lift, bMax, bMin, bLen, h, h', show (ns.length : Int) ≤ 100000 by omega, show -100000 ≤ (ns.length : Int) by omega]⟩
      · exact ⟨1, by omega, by omega, by simp [FI_rounds, iRange1, aC, aN, eB, eC, eV, R.andThen, R.lift, bMax, bMin, bLen, h, h']⟩
    · by_cases h' : (1 : Int) < m
      · exact ⟨m, by omega, by omega, by simp [FI_rounds, iRange1, aC, aN, eB, eC, eV, R.andThen, R.lift, bMax, bMin, bLen, h, h', show m ≤ 100000 by omega, show -100000 ≤ m by omega]⟩
      · exact ⟨1, by omega, by omega, by simp [FI_rounds, iRange1, aC, aN, eB, eC, eV, R.andThen, R.lift, bMax, bMin, bLen, h, h']⟩
  obtain ⟨k, k1, k2, e⟩ := e
  refine ⟨_, e, by rw [List.length_map, List.length_range]; show k.toNat ≤ 100000; omega, fun x hx => ?_⟩
  obtain ⟨i, _, rfl⟩ := List.mem_map.mp hx
  obtain ⟨c, hc⟩ := cell_plain hl i
  exact ⟨c, by simp [TE_rounds, eCall, aC, aN, eV, R.andThen, hc]⟩
def B__law_term (pa : Nat) (pc : Nat) : M Fl :=
  sSeq (sSet 1 (eLst (aC (e1 (isP pa (pc == 1)) (eV 0)) (aC (e1 (isP pa (pc == 2)) (eV 0)) (aC (e1 (isP pa (pc == 3)) (eV 0)) aN)))))
  (sSeq (sSet 1 (e2 opAdd (eV 1) (eLst (aC (e1 (isP pa (pc == 4)) (eV 0)) (aC (e1 (isP pa (pc == 5)) (eV 0)) (aC (e1 (isP pa (pc == 6)) (eV 0)) aN))))))
  (sSeq (sSet 1 (e2 opAdd (eV 1) (eLst (aC (e1 (isP pa (pc == 7)) (eV 0)) (aC (e1 (isP pa (pc == 8)) (eV 0)) aN)))))
  (sSeq (sSet 2 (eLst (aC (eC (.str [73, 110, 118, 97, 108, 105, 100, 66, 111, 97, 114, 100])) (aC (eC (.str [73, 110, 118, 97, 108, 105, 100, 67, 101, 108, 108])) (aC (eC (.str [73, 110, 118, 97, 108, 105, 100, 67, 101, 108, 108, 115])) (aC (eC (.str [73, 110, 118, 97, 108, 105, 100, 84, 105, 99, 107, 115])) (aC (eC (.str [73, 110, 118, 97, 108, 105, 100, 84, 101, 120, 116])) (aC (eC (.str [84, 111, 111, 76, 97, 114, 103, 101])) aN))))))))
  (sSeq (sSet 2 (e2 opAdd (eV 2) (eLst (aC (eC (.str [85, 110, 108, 105, 107, 101])) (aC (eC (.str [78, 111, 116, 104, 105, 110, 103, 84, 111, 85, 110, 100, 111])) aN)))))
  (sSeq (sIf (tOr (tV (e2 opNe (eB bSum (aC (eLc (iL (eV 1)) (gN 3) tY (eB bInt (aC (eV 3) aN)) [3]) aN)) (eC (.int 1)))) (tNo (tV (e1 (isP pa true) (eV 0))))) (sRet (eTup (aC (eC (.str [101, 114, 114, 111, 114])) (aC (eC (.str [111, 116, 104, 101, 114])) aN)))) (sNil))
  (sRet (eTup (aC (eC (.str [101, 114, 114, 111, 114])) (aC (e2 opIx (eV 2) (eIdx (eV 1) (eC (.bl true)))) aN)))))))))
theorem isP_self (a : Nat) (b : Bool) : isP a b (.opq a) = some (.bl b) := if_pos rfl
theorem term_plain (a c : Nat) (hc : okE c = true) : ∃ r', B__law_term a c (startE 4 [.opq a]) = .ok (.ret (errD kindE c)) r' := by
  have h : c = 1 ∨ c = 2 ∨ c = 3 ∨ c = 4 ∨ c = 5 ∨ c = 6 ∨ c = 7 ∨ c = 8 := by
    unfold okE at hc
    simp only [Bool.and_eq_true, decide_eq_true_eq] at hc
    omega
  rcases h with rfl | rfl | rfl | rfl | rfl | rfl | rfl | rfl <;>
    simp [B__law_term, startE, sSeq, sSet, sIf, sNil, sRet, tV, tOr, tNo, e2, e1, eV, eC, eLst, eTup, aC, aN, eB, eLc, lcGo, iL, gN, tY, wipeE, backE, notOwn, lim, eIdx, opIndex, mIndex, isP_self, R.andThen, R.lift, opAdd, opNe, pyEq, D.eqv, D.dep, D.depL, bSum, bInt, intsD, opIx, atD, List.findIdx?, List.findIdx?.go, errD, kindE]
end FB
namespace FB
/-! ### runs: one step each, for simp (what follows a step is named, so that simp does not walk into it) -/
section
variable {α β : Type} {r r1 r2 r3 : En} {a b c : M D} {as : M (List D)} {x y z d : D} {xs ys zs : List D} {f f' : D → D → Option D} {g : D → Option D} {h : List D → Option D} {t u : M Bool} {p q : Bool} {st su : M Fl} {fl : Fl} {i j k n : Nat}
theorem at_ok {v : α} {F : α → En → R β} : (R.ok v r).andThen F = F v r := rfl
theorem at_exc {F : α → En → R β} {c : Nat} : (R.exc c r : R α).andThen F = .exc c r := rfl
theorem lf_some {v : α} : R.lift (some v) r = .ok v r := rfl
def vQ (r : En) : Option Sl → R D
  | some (.dat d) => .ok d r
  | _ => .bad
theorem v_ap {i : Nat} : eV i r = vQ r r[i]? := rfl
theorem vQ_ap : vQ r (some (.dat d)) = .ok d r := rfl
theorem c_ap : eC x r = .ok x r := rfl
def e1K (g : D → Option D) (x : D) (r1 : En) : R D := .lift (g x) r1
theorem e1K_ap : e1K g x r = .lift (g x) r := rfl
theorem e1_ap : e1 g a r = (a r).andThen (e1K g) := rfl
def e2L (f : D → D → Option D) (x y : D) (r : En) : R D := .lift (f x y) r
theorem e2L_ap : e2L f x y r = .lift (f x y) r := rfl
def e2K (f : D → D → Option D) (b : M D) (x : D) (r : En) : R D := (b r).andThen (e2L f x)
theorem e2K_ap : e2K f b x r = (b r).andThen (e2L f x) := rfl
theorem e2_ap : e2 f a b r = (a r).andThen (e2K f b) := rfl
def chK (o : Option D) (G : En → R D) (r : En) : R D := match o with
  | some (.bl true) => G r
  | some (.bl false) => .ok (.bl false) r
  | _ => .bad
theorem chK_t {G : En → R D} : chK (some (.bl true)) G r = G r := rfl
theorem chK_f {G : En → R D} : chK (some (.bl false)) G r = .ok (.bl false) r := rfl
def chC (f' : D → D → Option D) (c : M D) (y : D) (r : En) : R D := (c r).andThen (e2L f' y)
theorem chC_ap : chC f' c y r = (c r).andThen (e2L f' y) := rfl
def chB (f f' : D → D → Option D) (c : M D) (x y : D) (r : En) : R D := chK (f x y) (chC f' c y) r
theorem chB_ap : chB f f' c x y r = chK (f x y) (chC f' c y) r := rfl
def chA (f f' : D → D → Option D) (b c : M D) (x : D) (r : En) : R D := (b r).andThen (chB f f' c x)
theorem chA_ap : chA f f' b c x r = (b r).andThen (chB f f' c x) := rfl
theorem ch_ap : eCh f f' a b c r = (a r).andThen (chA f f' b c) := rfl
theorem aN_ap : aN r = .ok [] r := rfl
def aCB (x : D) (xs : List D) (r : En) : R (List D) := .ok (x :: xs) r
theorem aCB_ap : aCB x xs r = .ok (x :: xs) r := rfl
def aCA (as : M (List D)) (x : D) (r : En) : R (List D) := (as r).andThen (aCB x)
theorem aCA_ap : aCA as x r = (as r).andThen (aCB x) := rfl
theorem aC_ap : aC a as r = (a r).andThen (aCA as) := rfl
def tupK (xs : List D) (r : En) : R D := .ok (.tup xs) r
theorem tupK_ap : tupK xs r = .ok (.tup xs) r := rfl
theorem tup_ap : eTup as r = (as r).andThen tupK := rfl
def lstK (xs : List D) (r : En) : R D := .ok (.lst xs) r
theorem lstK_ap : lstK xs r = .ok (.lst xs) r := rfl
theorem lst_ap : eLst as r = (as r).andThen lstK := rfl
def eBK (h : List D → Option D) (xs : List D) (r : En) : R D := .lift (h xs) r
theorem eBK_ap : eBK h xs r = .lift (h xs) r := rfl
theorem eB_ap : eB h as r = (as r).andThen (eBK h) := rfl
def Ro.to (x : Ro) (r : En) : R D := match x with
  | .ok d => .ok d r
  | .exc c => .exc c r
  | .bad => .bad
theorem to_ok : (Ro.ok x).to r = .ok x r := rfl
theorem to_exc {c : Nat} : (Ro.exc c).to r = .exc c r := rfl
def callK (F : List D → Ro) (xs : List D) (r : En) : R D := (F xs).to r
theorem callK_ap {F : List D → Ro} : callK F xs r = (F xs).to r := by rw [callK]
theorem call_ap {F : List D → Ro} : eCall F as r = (as r).andThen (callK F) := rfl
def anK (u : M Bool) (x : Bool) (r : En) : R Bool := bif x then u r else .ok false r
theorem anK_ap : anK u p r = bif p then u r else .ok false r := rfl
theorem an_ap : tAn t u r = (t r).andThen (anK u) := by
  unfold tAn
  congr 1
  funext x r1
  cases x <;> rfl
def orK (u : M Bool) (x : Bool) (r : En) : R Bool := bif x then .ok true r else u r
theorem orK_ap : orK u p r = bif p then .ok true r else u r := rfl
theorem or_ap : tOr t u r = (t r).andThen (orK u) := by
  unfold tOr
  congr 1
  funext x r1
  cases x <;> rfl
def noK (x : Bool) (r : En) : R Bool := .ok (!x) r
theorem noK_ap : noK p r = .ok (!p) r := rfl
theorem no_ap : tNo t r = (t r).andThen noK := rfl
theorem ty_ap : tY r = .ok true r := rfl
def blK (x : D) (r : En) : R Bool := match x with
  | .bl b => .ok b r
  | _ => .bad
theorem blK_ap : blK (.bl p) r = .ok p r := rfl
theorem tv_ap : tV a r = (a r).andThen blK := rfl
def bK (x : D) (G H : En → R D) (r : En) : R D := match x with
  | .bl true => G r
  | .bl false => H r
  | _ => .bad
theorem bK_ap {G H : En → R D} : bK (.bl p) G H r = bif p then G r else H r := by cases p <;> rfl
def okF (b : Bool) (r : En) : R D := .ok (.bl b) r
theorem okF_ap : okF p r = .ok (.bl p) r := rfl
def eAnK (b : M D) (x : D) (r : En) : R D := bK x b (okF false) r
theorem eAnK_ap : eAnK b x r = bK x b (okF false) r := rfl
theorem eAn_ap : eAn a b r = (a r).andThen (eAnK b) := rfl
def eOrK (b : M D) (x : D) (r : En) : R D := bK x (okF true) b r
theorem eOrK_ap : eOrK b x r = bK x (okF true) b r := rfl
theorem eOr_ap : eOr a b r = (a r).andThen (eOrK b) := by
  unfold eOr
  congr 1
def nK (x : D) (r : En) : R D := match x with
  | .bl b => .ok (.bl (!b)) r
  | _ => .bad
theorem nK_ap : nK (.bl p) r = .ok (.bl (!p)) r := rfl
theorem eNo_ap : eNo a r = (a r).andThen nK := rfl
def eIfK (a b : M D) (x : Bool) (r : En) : R D := bif x then a r else b r
theorem eIfK_ap : eIfK a b p r = bif p then a r else b r := rfl
theorem eIf_ap : eIf t a b r = (t r).andThen (eIfK a b) := by
  unfold eIf
  congr 1
  funext x r1
  cases x <;> rfl
def setK (i : Nat) (x : D) (r : En) : R Fl := .ok .nx (r.set i (.dat x))
theorem setK_ap : setK i x r = .ok .nx (r.set i (.dat x)) := rfl
theorem set_ap : sSet i a r = (a r).andThen (setK i) := rfl
def asgQ : Option En → R Fl
  | some r2 => .ok .nx r2
  | none => .bad
theorem asgQ_ap : asgQ (some r) = .ok .nx r := rfl
def asgK (g : Tg) (x : D) (r : En) : R Fl := asgQ (g x r)
theorem asgK_ap {g : Tg} : asgK g x r = asgQ (g x r) := rfl
theorem asg_ap {g : Tg} : sAsg g a r = (a r).andThen (asgK g) := rfl
def parB (i j : Nat) (x y : D) (r : En) : R Fl := .ok .nx ((r.set i (.dat x)).set j (.dat y))
theorem parB_ap : parB i j x y r = .ok .nx ((r.set i (.dat x)).set j (.dat y)) := rfl
def parA (i j : Nat) (b : M D) (x : D) (r : En) : R Fl := (b r).andThen (parB i j x)
theorem parA_ap : parA i j b x r = (b r).andThen (parB i j x) := rfl
theorem par_ap : sPar i j a b r = (a r).andThen (parA i j b) := rfl
def augL (i : Nat) (r : En) : Option D → R Fl
  | some z => .ok .nx (r.set i (.dat z))
  | none => .bad
theorem augL_ap : augL i r (some z) = .ok .nx (r.set i (.dat z)) := rfl
def augK (f : D → D → Option D) (i : Nat) (x y : D) (r : En) : R Fl := augL i r (f x y)
theorem augK_ap : augK f i x y r = augL i r (f x y) := rfl
def augQ (f : D → D → Option D) (i : Nat) (a : M D) (r : En) : Option Sl → R Fl
  | some (.dat x) => (a r).andThen (augK f i x)
  | _ => .bad
theorem augQ_ap : augQ f i a r (some (.dat x)) = (a r).andThen (augK f i x) := rfl
theorem aug_ap : sAug f i a r = augQ f i a r r[i]? := rfl
def retK (x : D) (r : En) : R Fl := .ok (.ret x) r
theorem retK_ap : retK x r = .ok (.ret x) r := rfl
theorem ret_ap : sRet a r = (a r).andThen retK := rfl
def expK (_ : D) (r : En) : R Fl := .ok .nx r
theorem expK_ap : expK x r = .ok .nx r := rfl
theorem exp_ap : sExp a r = (a r).andThen expK := rfl
theorem nil_ap : sNil r = .ok .nx r := rfl
def seqK (G : M Fl) (fl : Fl) (r : En) : R Fl := match fl with
  | .nx => G r
  | .ret d => .ok (.ret d) r
theorem flK_nx : seqK st .nx r = st r := rfl
theorem flK_ret : seqK st (.ret x) r = .ok (.ret x) r := rfl
theorem seq_ap : sSeq st su r = (st r).andThen (seqK su) := rfl
def ifK (st su : M Fl) (x : Bool) (r : En) : R Fl := bif x then st r else su r
theorem ifK_ap : ifK st su p r = bif p then st r else su r := rfl
theorem if_ap : sIf t st su r = (t r).andThen (ifK st su) := by
  unfold sIf
  congr 1
  funext x r1
  cases x <;> rfl
theorem for_ap {it : M (List D)} {g : Tg} : sFor it g st r = (it r).andThen (forGo g st) := rfl
def whL (c : M Bool) (body : M Fl) (n : Nat) (fl : Fl) (r : En) : R Fl := match fl with
  | .nx => sWhile c body n r
  | .ret d => .ok (.ret d) r
theorem whL_nx {c : M Bool} : whL c st n .nx r = sWhile c st n r := rfl
theorem whL_ret {c : M Bool} : whL c st n (.ret x) r = .ok (.ret x) r := rfl
def whK (c : M Bool) (body : M Fl) (n : Nat) (x : Bool) (r : En) : R Fl := bif x then (body r).andThen (whL c body n) else .ok .nx r
theorem whK_ap {c : M Bool} : whK c st n p r = bif p then (st r).andThen (whL c st n) else .ok .nx r := rfl
theorem wh_ap {c : M Bool} : sWhile c st (n + 1) r = (c r).andThen (whK c st n) := by
  rw [sWhile]
  dsimp only
  congr 1
  funext x r1
  cases x <;> rfl
theorem raise_ap {c : Nat} : sRaise c r = .exc c r := rfl
def newK (i : Nat) (xs : List D) (r : En) : R Fl := .ok .nx (r.set i (.own xs))
theorem newK_ap : newK i xs r = .ok .nx (r.set i (.own xs)) := rfl
theorem newL_ap : sNewL i as r = (as r).andThen (newK i) := rfl
def appL (i : Nat) (x : D) (r : En) : Option Sl → R Fl
  | some (.own ys) => if ys.length < lim then .ok .nx (r.set i (.own (ys ++ [x]))) else .bad
  | _ => .bad
theorem appL_ap : appL i x r (some (.own ys)) = if ys.length < lim then .ok .nx (r.set i (.own (ys ++ [x]))) else .bad := rfl
def appK (i : Nat) (x : D) (r : En) : R Fl := appL i x r r[i]?
theorem appK_ap : appK i x r = appL i x r r[i]? := rfl
def appQ (i : Nat) (a : M D) (r : En) (o : Option Sl) : R Fl := if notOwn o then .bad else (a r).andThen (appK i)
theorem appQ_ap : appQ i a r (some (.own ys)) = (a r).andThen (appK i) := rfl
theorem app_ap : sApp i a r = appQ i a r r[i]? := rfl
def frzQ (i : Nat) (st : M Fl) (r : En) : Option Sl → R Fl
  | some (.own ys) => st (r.set i (.dat (.lst ys)))
  | _ => .bad
theorem frzQ_ap : frzQ i st r (some (.own ys)) = st (r.set i (.dat (.lst ys))) := rfl
theorem frz_ap : sFrz i st r = frzQ i st r r[i]? := rfl
def ixL (x : D) (r : En) : Option Sl → R D
  | some (.own ys) => (match x with | .int j => .lift (atD ys j) r | _ => .bad)
  | some (.bor ys) => (match x with | .int j => .lift (atD ys j) r | _ => .bad)
  | _ => .bad
theorem ixL_own {j : Int} : ixL (.int j) r (some (.own ys)) = .lift (atD ys j) r := rfl
theorem ixL_bor {j : Int} : ixL (.int j) r (some (.bor ys)) = .lift (atD ys j) r := rfl
def ixK (i : Nat) (x : D) (r : En) : R D := ixL x r r[i]?
theorem ixK_ap : ixK i x r = ixL x r r[i]? := rfl
def ixQ (i : Nat) (a : M D) (r : En) (o : Option Sl) : R D := if notOwn o then .bad else (a r).andThen (ixK i)
theorem ixQ_own : ixQ i a r (some (.own ys)) = (a r).andThen (ixK i) := rfl
theorem ixQ_bor : ixQ i a r (some (.bor ys)) = (a r).andThen (ixK i) := rfl
theorem ixO_ap : eIxO i a r = ixQ i a r r[i]? := by
  unfold eIxO ixQ
  congr 2
  funext x r1
  unfold ixK
  cases (r1[i]? : Option Sl) with
  | none => rfl
  | some s => cases s <;> cases x <;> rfl
def Rw.to (x : Rw) (i : Nat) (r : En) : R D := match x with
  | .ok d zs => .ok d (r.set i (.bor zs))
  | .exc c zs => .exc c (r.set i (.bor zs))
  | .bad => .bad
theorem tow_ok : (Rw.ok d zs).to i r = .ok d (r.set i (.bor zs)) := rfl
def coL (F : List D → List D → Rw) (i : Nat) (xs : List D) (r : En) : Option Sl → R D
  | some (.bor ys) => (F ys xs).to i r
  | _ => .bad
theorem coL_ap {F : List D → List D → Rw} : coL F i xs r (some (.bor ys)) = (F ys xs).to i r := by rw [coL]
def coK (F : List D → List D → Rw) (i : Nat) (xs : List D) (r : En) : R D := coL F i xs r r[i]?
theorem coK_ap {F : List D → List D → Rw} : coK F i xs r = coL F i xs r r[i]? := rfl
def coQ (F : List D → List D → Rw) (i : Nat) (as : M (List D)) (r : En) : Option Sl → R D
  | some (.bor _) => (as r).andThen (coK F i)
  | _ => .bad
theorem coQ_ap {F : List D → List D → Rw} : coQ F i as r (some (.bor ys)) = (as r).andThen (coK F i) := rfl
theorem callO_ap {F : List D → List D → Rw} : eCallO F i as r = coQ F i as r r[i]? := rfl
def lK (x : D) (r : En) : R (List D) := match x with
  | .lst xs => .ok xs r
  | _ => .bad
theorem lK_ap : lK (.lst xs) r = .ok xs r := rfl
theorem iL_ap : iL a r = (a r).andThen lK := rfl
def uK (x : D) (r : En) : R (List D) := match x with
  | .tup xs => .ok xs r
  | _ => .bad
theorem uK_ap : uK (.tup xs) r = .ok xs r := rfl
theorem iT_ap : iT a r = (a r).andThen uK := rfl
def sK (x : D) (r : En) : R (List D) := match x with
  | .str s => .ok (s.map fun c => .str [c]) r
  | _ => .bad
theorem sK_ap {s : List Nat} : sK (.str s) r = .ok (s.map fun c => .str [c]) r := rfl
theorem iS_ap : iS a r = (a r).andThen sK := rfl
def enK (xs : List D) (r : En) : R (List D) := .ok (xs.mapIdx fun i x => .tup [.int (i : Nat), x]) r
theorem enK_ap : enK xs r = .ok (xs.mapIdx fun i x => .tup [.int (i : Nat), x]) r := rfl
theorem iEnum_ap {it : M (List D)} : iEnum it r = (it r).andThen enK := rfl
def rgK (xs : List D) (r1 : En) : R (List D) := match xs with
  | [.int n] => if n ≤ 100000 ∧ -100000 ≤ n then .ok ((List.range n.toNat).map fun i => .int (i : Nat)) r1 else .bad
  | _ => .bad
theorem iR_ap : iRange1 as r = (as r).andThen rgK := rfl
theorem rgK_ap {n : Int} (h : n ≤ 100000) (h' : -100000 ≤ n) : rgK [.int n] r = .ok ((List.range n.toNat).map fun i => .int (i : Nat)) r := if_pos ⟨h, h'⟩
theorem rgK_nat {n : Nat} (h : n ≤ 100000) : rgK [.int n] r = .ok ((List.range n).map fun i => .int (i : Nat)) r := by
  rw [rgK_ap (by omega) (by omega), Int.toNat_natCast]
theorem run1 {n : Nat} : runD 1 n st [x] = fin0 (st (.dat x :: List.replicate (n - 1) .un)) := rfl
theorem run2 {n : Nat} : runD 2 n st [x, y] = fin0 (st (.dat x :: .dat y :: List.replicate (n - 2) .un)) := rfl
theorem run3 {n : Nat} : runD 3 n st [x, y, z] = fin0 (st (.dat x :: .dat y :: .dat z :: List.replicate (n - 3) .un)) := rfl
theorem run4 {n : Nat} : runD 4 n st [x, y, z, d] = fin0 (st (.dat x :: .dat y :: .dat z :: .dat d :: List.replicate (n - 4) .un)) := rfl
theorem f_nx : fin0 (.ok .nx r) = .ok .non := rfl
theorem f_ret : fin0 (.ok (.ret x) r) = .ok x := rfl
theorem f_exc {c : Nat} : fin0 (.exc c r) = .exc c := rfl
def slC (x : D) (l u : Option Int) (r : En) : R D := .lift (opSl l u x) r
theorem slC_ap {l u : Option Int} : slC x l u r = .lift (opSl l u x) r := rfl
def slB (hi : Eg) (x : D) (l : Option Int) (r : En) : R D := (hi r).andThen (slC x l)
theorem slB_ap {hi : Eg} {l : Option Int} : slB hi x l r = (hi r).andThen (slC x l) := rfl
def slA (lo hi : Eg) (x : D) (r : En) : R D := (lo r).andThen (slB hi x)
theorem slA_ap {lo hi : Eg} : slA lo hi x r = (lo r).andThen (slB hi x) := rfl
theorem sl_ap {lo hi : Eg} : eSl a lo hi r = (a r).andThen (slA lo hi) := rfl
theorem gNo_ap : gNo r = .ok none r := rfl
def gsK (x : D) (r : En) : R (Option Int) := match x with
  | .int i => .ok (some i) r
  | _ => .bad
theorem gsK_ap {i : Int} : gsK (.int i) r = .ok (some i) r := rfl
theorem gSo_ap : gSo a r = (a r).andThen gsK := rfl
def cntK (b : M D) (x : D) (r1 : En) : R D := match x with
  | .lst xs => (b r1).andThen fun y r2 => .lift (if y.dep ≤ 60 ∧ D.dep (.lst xs) ≤ 60 then some (.int ((xs.countP fun z => D.eqv z y : Nat) : Int)) else none) r2
  | .str s => (b r1).andThen fun y r2 => (match y with
    | .str [c] => .ok (.int ((s.count c : Nat) : Int)) r2
    | _ => .bad)
  | _ => .bad
theorem cnt_ap : eCnt a b r = (a r).andThen (cntK b) := rfl
end
theorem ltL {a b : Nat} (h : Nat.ble (a + 1) b = true) : a < b := Nat.le_of_ble_eq_true h
theorem leL {a b : Nat} (h : Nat.ble a b = true) : a ≤ b := Nat.le_of_ble_eq_true h
/-! ### comprehensions without effects -/
theorem getD_set_self {r : En} {v : Nat} (hv : v < r.length) (s : Sl) : (r.set v s).set v (r.getD v .un) = r := by
  rw [List.set_set]
  apply List.ext_getElem?
  intro i
  rw [List.getElem?_set]
  split
  · rename_i e
    subst e
    simp [List.getD, List.getElem?_eq_getElem hv, hv]
  · rfl
theorem lcGo_pure {α : Type} {tg : Tg} {tt : M Bool} {te : M D} {vs : List Nat} {e : α → D} {p : α → Bool} {g : α → D} {rx : α → En} {r : En} :
    ∀ (l : List α) (acc : List D), (∀ x ∈ l, tg (e x) r = some (rx x) ∧ tt (rx x) = .ok (p x) (rx x) ∧ (p x = true → te (rx x) = .ok (g x) (rx x)) ∧ wipeE vs (rx x) = r) →
    lcGo tg tt te vs (l.map e) acc r = .ok (acc ++ (l.filter p).map g) r
  | [], acc, _ => by simp [lcGo]
  | x :: l, acc, H => by
    obtain ⟨h1, h2, h3, h4⟩ := H x List.mem_cons_self
    have ih := fun acc => lcGo_pure (tg := tg) (tt := tt) (te := te) (vs := vs) (e := e) (p := p) (g := g) (rx := rx) (r := r) l acc fun y hy => H y (List.mem_cons_of_mem _ hy)
    rw [List.map_cons, lcGo, h1]
    dsimp only
    rw [h2, at_ok]
    cases hp : p x
    · rw [if_neg (by simp), h4, ih, List.filter_cons_of_neg (by simp [hp])]
    · rw [if_pos rfl, h3 hp, at_ok, h4, ih, List.filter_cons_of_pos hp]
      simp
theorem lc_N {α : Type} {it : M (List D)} {tt : M Bool} {te : M D} {v : Nat} {r : En} (l : List α) (e : α → D) (p : α → Bool) (g : α → D)
    (hi : it r = .ok (l.map e) r) (hs : notOwn r[v]? = true ∧ v < r.length ∧ l.length ≤ lim)
    (H : ∀ x ∈ l, tt (r.set v (.dat (e x))) = .ok (p x) (r.set v (.dat (e x))) ∧ (p x = true → te (r.set v (.dat (e x))) = .ok (g x) (r.set v (.dat (e x))))) :
    eLc it (gN v) tt te [v] r = .ok (.lst ((l.filter p).map g)) r := by
  obtain ⟨hv, hn, hl⟩ := hs
  have key := lcGo_pure (tg := gN v) (tt := tt) (te := te) (vs := [v]) (e := e) (p := p) (g := g) (rx := fun x => r.set v (.dat (e x))) (r := wipeE [v] r) l [] fun x hx => by
    refine ⟨?_, (H x hx).1, (H x hx).2, ?_⟩
    · show some ((r.set v .un).set v (.dat (e x))) = _
      rw [List.set_set]
    · show (r.set v (.dat (e x))).set v .un = r.set v .un
      rw [List.set_set]
  unfold eLc
  rw [hi, at_ok, if_pos (⟨by simp [hv], by simpa using hl⟩), key]
  show R.ok _ (((r.set v .un)).set v (r.getD v .un)) = _
  rw [getD_set_self hn, List.nil_append]
theorem lc_T {α : Type} {it : M (List D)} {tt : M Bool} {te : M D} {u v : Nat} {r : En} (l : List α) (e e' : α → D) (p : α → Bool) (g : α → D) (huv : u ≠ v)
    (hi : it r = .ok (l.map fun x => .tup [e x, e' x]) r) (hs : notOwn r[u]? = true ∧ notOwn r[v]? = true ∧ u < r.length ∧ v < r.length ∧ l.length ≤ lim)
    (H : ∀ x ∈ l, tt ((r.set u (.dat (e x))).set v (.dat (e' x))) = .ok (p x) ((r.set u (.dat (e x))).set v (.dat (e' x))) ∧ (p x = true → te ((r.set u (.dat (e x))).set v (.dat (e' x))) = .ok (g x) ((r.set u (.dat (e x))).set v (.dat (e' x))))) :
    eLc it (gT [u, v]) tt te [u, v] r = .ok (.lst ((l.filter p).map g)) r := by
  obtain ⟨hu, hv, hm, hn, hl⟩ := hs
  have cm : ∀ (r : En) (s t : Sl), (r.set u s).set v t = (r.set v t).set u s := fun r s t => List.set_comm _ _ huv
  have key := lcGo_pure (tg := gT [u, v]) (tt := tt) (te := te) (vs := [u, v]) (e := fun x => .tup [e x, e' x]) (p := p) (g := g) (rx := fun x => (r.set u (.dat (e x))).set v (.dat (e' x))) (r := wipeE [u, v] r) l [] fun x hx => by
    refine ⟨?_, (H x hx).1, (H x hx).2, ?_⟩
    · show some ((((r.set v .un).set u .un).set u (.dat (e x))).set v (.dat (e' x))) = _
      rw [List.set_set, cm, List.set_set, cm]
    · show ((((r.set u (.dat (e x))).set v (.dat (e' x))).set v .un).set u .un) = (r.set v .un).set u .un
      rw [List.set_set, ← cm, List.set_set, ← cm]
  unfold eLc
  rw [hi, at_ok, if_pos (⟨by simp [hu, hv], by simpa using hl⟩), key]
  show R.ok _ ((((r.set v .un).set u .un).set v (r.getD v .un)).set u (r.getD u .un)) = _
  rw [cm (r.set v .un), List.set_set, List.set_set]
  have h2 : (r.set u (r.getD u .un)) = r := by
    have := getD_set_self hm .un
    rwa [List.set_set] at this
  have h3 : (r.set v (r.getD v .un)) = r := by
    have := getD_set_self hn .un
    rwa [List.set_set] at this
  rw [h3, h2, List.nil_append]
theorem lc_A {α : Type} {it : M (List D)} {te : M D} {v : Nat} {r : En} (l : List α) (e : α → D) (g : α → D)
    (hi : it r = .ok (l.map e) r) (hs : notOwn r[v]? = true ∧ v < r.length ∧ l.length ≤ lim)
    (H : ∀ x ∈ l, te (r.set v (.dat (e x))) = .ok (g x) (r.set v (.dat (e x)))) :
    eLc it (gN v) tY te [v] r = .ok (.lst (l.map g)) r := by
  rw [lc_N (tt := tY) l e (fun _ => true) g hi hs fun x hx => ⟨rfl, fun _ => H x hx⟩, List.filter_eq_self.mpr (fun _ _ => rfl)]
/-! ### loops -/
def Nx (x : R Fl) (Q : En → Prop) : Prop := ∃ r, x = .ok .nx r ∧ Q r
theorem nx_ok {r : En} {Q : En → Prop} (h : Q r) : Nx (.ok .nx r) Q := ⟨r, rfl, h⟩
theorem forGo_inv {α : Type} {tg : Tg} {body : M Fl} {e : α → D} (I : List α → En → Prop) :
    ∀ (l pre : List α) (r : En), (∀ p x, p ++ [x] <+: pre ++ l → ∀ r, I p r → ∃ r1, tg (e x) r = some r1 ∧ Nx (body r1) (I (p ++ [x]))) → I pre r →
    Nx (forGo tg body (l.map e) r) (I (pre ++ l))
  | [], pre, r, _, h => ⟨r, rfl, by rwa [List.append_nil]⟩
  | x :: l, pre, r, H, h => by
    obtain ⟨r1, a1, r2, a2, a3⟩ := H pre x ⟨l, by simp⟩ r h
    obtain ⟨r', b1, b2⟩ := forGo_inv (tg := tg) (body := body) (e := e) I l (pre ++ [x]) r2 (fun p y hp => H p y (by simpa using hp)) a3
    refine ⟨r', ?_, by simpa using b2⟩
    rw [List.map_cons, forGo, a1]
    dsimp only
    rw [a2]
    exact b1
/-- a loop that only goes on, and what follows -/
theorem for_then {α : Type} {it : M (List D)} {tg : Tg} {body : M Fl} {r : En} {F : Fl → En → R Fl} {P : R Fl → Prop} (l : List α) (e : α → D) (r1 : En) (I : List α → En → Prop) (hi : it r = .ok (l.map e) r1) (h0 : I [] r1)
    (H : ∀ p x, p ++ [x] <+: l → ∀ r, I p r → ∃ r1, tg (e x) r = some r1 ∧ Nx (body r1) (I (p ++ [x])))
    (K : ∀ r', I l r' → P (F .nx r')) : P ((sFor it tg body r).andThen F) := by
  obtain ⟨r', a, b⟩ := forGo_inv (tg := tg) (body := body) (e := e) I l [] r1 (by simpa using H) h0
  rw [for_ap, hi, at_ok, a, at_ok]
  exact K r' (by simpa using b)
theorem for_end {α : Type} {it : M (List D)} {tg : Tg} {body : M Fl} {r : En} {P : R Fl → Prop} (l : List α) (e : α → D) (r1 : En) (I : List α → En → Prop) (hi : it r = .ok (l.map e) r1) (h0 : I [] r1)
    (H : ∀ p x, p ++ [x] <+: l → ∀ r, I p r → ∃ r1, tg (e x) r = some r1 ∧ Nx (body r1) (I (p ++ [x])))
    (K : ∀ r', I l r' → P (.ok .nx r')) : P (sFor it tg body r) := by
  obtain ⟨r', a, b⟩ := forGo_inv (tg := tg) (body := body) (e := e) I l [] r1 (by simpa using H) h0
  rw [for_ap, hi, at_ok, a]
  exact K r' (by simpa using b)
end FB
namespace FB
/-! ### plain boards: R rows of C signs -/
def row (C : Nat) (g : Nat → Nat) : List Nat := (List.range C).map g
def Bo (R C : Nat) (f : Nat → Nat → Nat) : D := .tup ((List.range R).map fun i => .str (row C (f i)))
def cD (p : Nat × Nat) : D := .tup [.int p.1, .int p.2]
def frS (c : Nat) : Bool := decide (c ∈ [35, 46])
def laS (c : Nat) : Bool := decide (c ∈ [42, 111])
def icS (c : Nat) : Bool := decide (c ∈ [35, 42])
def okS (c : Nat) : Bool := decide (c ∈ [35, 46, 42, 111])
structure Sh (R C : Nat) : Prop where
  r1 : 1 ≤ R
  r4 : R ≤ 4
  c1 : 1 ≤ C
  c4 : C ≤ 4
  m : R * C ≤ 12
/-- a board: all signs are signs; beyond the board water (so that equal boards are equal functions) -/
structure BD (R C : Nat) (f : Nat → Nat → Nat) : Prop where
  ok : ∀ i j, okS (f i j) = true
  out : ∀ i j, ¬ (i < R ∧ j < C) → f i j = 46
def cellsOf (R C : Nat) : List (Nat × Nat) := (List.range R).flatMap fun i => (List.range C).map fun j => (i, j)
abbrev F2 := Nat → Nat → Nat
def ic (f : F2) (p : Nat × Nat) : Bool := icS (f p.1 p.2)
def fr (f : F2) (p : Nat × Nat) : Bool := frS (f p.1 p.2)
def freeOf (R C : Nat) (f : F2) : List (Nat × Nat) := (cellsOf R C).filter (fr f)
def adj (p q : Nat × Nat) : Bool := (p.1 == q.1 && (p.2 + 1 == q.2 || q.2 + 1 == p.2)) || (p.2 == q.2 && (p.1 + 1 == q.1 || q.1 + 1 == p.1))
def nb (R C : Nat) (p : Nat × Nat) : List (Nat × Nat) := (cellsOf R C).filter (adj p)
/-- ice neighbours -/
def nI (R C : Nat) (f : F2) (p : Nat × Nat) : Nat := (nb R C p).countP (ic f)
def nN (R C : Nat) (p : Nat × Nat) : Nat := (nb R C p).length
def tick (R C : Nat) (f : F2) : F2 := fun i j => if laS (f i j) = true then f i j else if 2 * nI R C f (i, j) = nN R C (i, j) then f i j else if 2 * nI R C f (i, j) > nN R C (i, j) then (if i < R ∧ j < C then 35 else 46) else 46
def draw (f : F2) (S : List (Nat × Nat)) : F2 := fun i j => if laS (f i j) = true then f i j else if (i, j) ∈ S then 35 else 46
theorem mem_cells {R C : Nat} {p : Nat × Nat} : p ∈ cellsOf R C ↔ p.1 < R ∧ p.2 < C := by
  unfold cellsOf
  simp only [List.mem_flatMap, List.mem_map, List.mem_range]
  constructor
  · rintro ⟨i, hi, j, hj, rfl⟩
    exact ⟨hi, hj⟩
  · rintro ⟨hi, hj⟩
    exact ⟨p.1, hi, p.2, hj, rfl⟩
theorem fr_la {c : Nat} (h : okS c = true) : frS c = !laS c := by
  unfold okS at h
  simp only [List.mem_cons, List.not_mem_nil, or_false, decide_eq_true_eq] at h
  rcases h with rfl | rfl | rfl | rfl <;> rfl
theorem bo_eq {R C : Nat} {f g : F2} (h : ∀ i j, i < R → j < C → f i j = g i j) : Bo R C f = Bo R C g := by
  unfold Bo row
  congr 1
  apply List.map_congr_left
  intro i hi
  congr 1
  apply List.map_congr_left
  intro j hj
  exact h i j (List.mem_range.mp hi) (List.mem_range.mp hj)
theorem bo_inj {R C : Nat} {f g : F2} (h : Bo R C f = Bo R C g) : ∀ i j, i < R → j < C → f i j = g i j := by
  intro i j hi hj
  unfold Bo row at h
  have h1 := D.tup.inj h
  have h2 := List.map_inj_left.mp h1 i (List.mem_range.mpr hi)
  exact List.map_inj_left.mp (D.str.inj h2) j (List.mem_range.mpr hj)
theorem bo_ext {R C : Nat} {f g : F2} (hf : BD R C f) (hg : BD R C g) (h : Bo R C f = Bo R C g) : f = g := by
  funext i j
  by_cases hij : i < R ∧ j < C
  · exact bo_inj h i j hij.1 hij.2
  · rw [hf.out i j hij, hg.out i j hij]
theorem mapIdx_range {α β : Type} (n : Nat) (g : Nat → α) (h : Nat → α → β) : ((List.range n).map g).mapIdx h = (List.range n).map fun i => h i (g i) := by
  apply List.ext_getElem
  · simp
  · intro i h1 h2
    simp
/-! ### what operators make of them -/
section
variable {R C : Nat} {f : F2} {g : Nat → Nat} {r : En} {i j c : Nat}
theorem uK_Bo : uK (Bo R C f) r = .ok ((List.range R).map fun i => .str (row C (f i))) r := rfl
theorem sK_row : sK (.str (row C g)) r = .ok ((List.range C).map fun j => .str [g j]) r := by
  show R.ok (List.map _ (List.map _ _)) r = _
  rw [List.map_map]
  rfl
theorem len_Bo : bLen [Bo R C f] = some (.int R) := by simp [Bo, bLen]
theorem len_row : bLen [.str (row C g)] = some (.int C) := by simp [row, bLen]
theorem atD_nat {α : Type} {xs : List α} {i : Nat} : atD xs (i : Int) = xs[i]? := by simp [atD]
theorem ix_Bo (h : i < R) : opIx (Bo R C f) (.int i) = some (.str (row C (f i))) := by
  show atD _ _ = _
  rw [atD_nat]
  simp [h]
theorem ix_Bo0 (h : 0 < R) : opIx (Bo R C f) (.int 0) = some (.str (row C (f 0))) := ix_Bo (i := 0) h
theorem ix_row (h : j < C) : opIx (.str (row C g)) (.int j) = some (.str [g j]) := by
  show Option.map _ (atD _ _) = _
  rw [atD_nat]
  simp [h, row]
theorem in_fr : opInS (.str [c]) (.str [35, 46]) = some (.bl (frS c)) := rfl
theorem in_la : opInS (.str [c]) (.str [42, 111]) = some (.bl (laS c)) := rfl
theorem in_ic : opInS (.str [c]) (.str [35, 42]) = some (.bl (icS c)) := rfl
theorem in_ok : opInS (.str [c]) (.str [35, 46, 42, 111]) = some (.bl (okS c)) := rfl
theorem ix_c0 {p : Nat × Nat} : opIx (cD p) (.int 0) = some (.int p.1) := rfl
theorem ix_c1 {p : Nat × Nat} : opIx (cD p) (.int 1) = some (.int p.2) := rfl
theorem eqv_c {p q : Nat × Nat} : D.eqv (cD p) (cD q) = decide (p = q) := by
  simp only [cD, D.eqv, D.eqvL, Bool.and_true]
  by_cases h : p = q
  · subst h
    simp
  · rw [decide_eq_false h]
    rw [Bool.and_eq_false_iff]
    simp only [beq_eq_false_iff_ne, ne_eq]
    by_cases h1 : (p.1 : Int) = q.1
    · right
      intro h2
      exact h (Prod.ext (by omega) (by omega))
    · exact .inl h1
theorem dep_c {p : Nat × Nat} : (cD p).dep = 1 := rfl
theorem depL_map {α : Type} (e : α → D) (n : Nat) (h : ∀ x, (e x).dep ≤ n) : ∀ l : List α, D.depL (l.map e) ≤ n
  | [] => Nat.zero_le _
  | x :: l => by
    rw [List.map_cons, D.depL]
    exact Nat.max_le.mpr ⟨h x, depL_map e n h l⟩
theorem dep_cs (l : List (Nat × Nat)) : D.dep (.lst (l.map cD)) ≤ 60 := by
  rw [D.dep]
  have := depL_map cD 1 (fun _ => Nat.le_refl _) l
  omega
theorem dep_cst (l : List (Nat × Nat)) : D.dep (.tup (l.map cD)) ≤ 60 := by
  rw [D.dep]
  have := depL_map cD 1 (fun _ => Nat.le_refl _) l
  omega
theorem any_c {p : Nat × Nat} (l : List (Nat × Nat)) : ((l.map cD).any fun z => D.eqv z (cD p)) = decide (p ∈ l) := by
  rw [List.any_map]
  induction l with
  | nil => simp
  | cons q l ih =>
    rw [List.any_cons, ih]
    simp only [Function.comp, eqv_c]
    by_cases h : q = p
    · subst h
      simp
    · simp [h, Ne.symm h, List.mem_cons, eq_comm]
/-- cells as a list or a tuple -/
def isCs (d : D) (l : List (Nat × Nat)) : Prop := d = .lst (l.map cD) ∨ d = .tup (l.map cD)
theorem in_cs {p : Nat × Nat} {d : D} {l : List (Nat × Nat)} (h : isCs d l) : inB (cD p) d = some (decide (p ∈ l)) := by
  rcases h with rfl | rfl
  · rw [inB, if_pos ⟨by rw [dep_c]; decide, dep_cs l⟩, any_c]
  · rw [inB, if_pos ⟨by rw [dep_c]; decide, dep_cst l⟩, any_c]
theorem opIn_cs {p : Nat × Nat} {d : D} {l : List (Nat × Nat)} (h : isCs d l) : opIn (cD p) d = some (.bl (decide (p ∈ l))) := by
  rw [opIn, in_cs h]
  rfl
theorem strs_map {α : Type} (g : α → List Nat) : ∀ l : List α, strsD (l.map fun x => .str (g x)) = some (l.map g)
  | [] => rfl
  | x :: l => by
    rw [List.map_cons, strsD, strs_map g l]
    rfl
theorem joinL_one {α : Type} (g : α → Nat) : ∀ l : List α, joinL [] (l.map fun x => [g x]) = l.map g
  | [] => rfl
  | [x] => rfl
  | x :: y :: l => by
    have := joinL_one g (y :: l)
    rw [List.map_cons] at this
    rw [List.map_cons, List.map_cons, joinL, this]
    · simp
    · simp
/-- "".join of a row of signs -/
theorem join_row (n : Nat) (hn : n ≤ 1000) : mJoin (.str []) (.lst ((List.range n).map fun j => .str [g j])) = some (.str (row n g)) := by
  rw [mJoin, strs_map (fun j => [g j])]
  show (if _ then _ else _) = _
  rw [joinL_one, if_pos ⟨by simp [lim]; omega, by simp [lim]; omega, by decide⟩]
  rfl
theorem tuple_rows : bTuple [.lst ((List.range R).map fun i => .str (row C (f i)))] = some (Bo R C f) := rfl
end
end FB
namespace FB
section
variable {R C : Nat} {f : F2}
theorem ice_ok {p : Nat × Nat} (h : p.1 < R ∧ p.2 < C) : D_ice_at [Bo R C f, cD p] = .ok (.bl (ic f p)) := by
  simp only [D_ice_at, B_ice_at, run1, run2, run3, run4, Nat.reduceSub, List.replicate_succ, List.replicate_zero, Nat.reduceAdd, seq_ap, set_ap, setK_ap, ret_ap, retK_ap, if_ap, ifK_ap, nil_ap, exp_ap, expK_ap, par_ap, parA_ap, parB_ap, asg_ap, asgK_ap, asgQ_ap, aug_ap, augQ_ap, augK_ap, augL_ap, raise_ap, newL_ap, newK_ap, app_ap, appQ_ap, appK_ap, appL_ap, frz_ap, frzQ_ap, tv_ap, an_ap, anK_ap, or_ap, orK_ap, no_ap, noK_ap, ty_ap, e1_ap, e1K_ap, e2_ap, e2K_ap, e2L_ap, v_ap, vQ_ap, c_ap, call_ap, callK_ap, eB_ap, eBK_ap, aC_ap, aCA_ap, aCB_ap, aN_ap, tup_ap, tupK_ap, lst_ap, lstK_ap, eIf_ap, eIfK_ap, eAn_ap, eAnK_ap, eOr_ap, eOrK_ap, okF_ap, eNo_ap, ch_ap, chA_ap, chB_ap, chC_ap, ixO_ap, ixQ_own, ixQ_bor, ixK_ap, ixL_own, ixL_bor, callO_ap, coQ_ap, coK_ap, coL_ap, tow_ok, iL_ap, iT_ap, iS_ap, iEnum_ap, enK_ap, iR_ap, sl_ap, slA_ap, slB_ap, slC_ap, gNo_ap, gSo_ap, gsK_ap, setAll, at_ok, at_exc, lf_some, chK_t, chK_f, to_ok, to_exc, blK_ap, bK_ap, nK_ap, flK_nx, flK_ret, lK_ap, uK_ap, f_nx, f_ret, f_exc, List.getElem?_cons_zero, List.getElem?_cons_succ, List.set_cons_zero, List.set_cons_succ, cond_true, cond_false, Bool.not_true, Bool.not_false, Bool.false_eq_true, if_false, ix_c0, ix_c1, ix_Bo h.1, ix_row h.2, in_ic]
  rfl
theorem lice_ok {p : Nat × Nat} (h : p.1 < R ∧ p.2 < C) : D__law_ice [Bo R C f, cD p] = .ok (.bl (ic f p)) := ice_ok h
def freeRow (C : Nat) (f : F2) (i : Nat) : List (Nat × Nat) := ((List.range C).filter fun j => frS (f i j)).map fun j => (i, j)
theorem free_rows : freeOf R C f = (List.range R).flatMap (freeRow C f) := by
  unfold freeOf cellsOf freeRow
  rw [List.filter_flatMap]
  congr 1
  funext i
  rw [List.filter_map]
  rfl
theorem free_len (h : Sh R C) : (freeOf R C f).length ≤ 16 := by
  refine Nat.le_trans (List.length_filter_le _ _) ?_
  unfold cellsOf
  have h1 := h.r4
  have h2 := h.c4
  rw [List.length_flatMap]
  simp only [List.length_map, List.length_range]
  rw [show (List.map (fun a => C) (List.range R)).sum = R * C by rw [List.map_const', List.sum_replicate_nat, List.length_range]]
  have := h.m
  omega
theorem free_body {R C : Nat} {f : F2} (h : Sh R C) (hb : B__law_free = B_free_cells) : D_free_cells [Bo R C f] = .ok (.lst ((freeOf R C f).map cD)) := by
  simp only [D_free_cells, B_free_cells, run1, run2, run3, run4, Nat.reduceSub, List.replicate_succ, List.replicate_zero, Nat.reduceAdd, seq_ap, set_ap, setK_ap, ret_ap, retK_ap, if_ap, ifK_ap, nil_ap, exp_ap, expK_ap, par_ap, parA_ap, parB_ap, asg_ap, asgK_ap, asgQ_ap, aug_ap, augQ_ap, augK_ap, augL_ap, raise_ap, newL_ap, newK_ap, app_ap, appQ_ap, appK_ap, appL_ap, frz_ap, frzQ_ap, tv_ap, an_ap, anK_ap, or_ap, orK_ap, no_ap, noK_ap, ty_ap, e1_ap, e1K_ap, e2_ap, e2K_ap, e2L_ap, v_ap, vQ_ap, c_ap, call_ap, callK_ap, eB_ap, eBK_ap, aC_ap, aCA_ap, aCB_ap, aN_ap, tup_ap, tupK_ap, lst_ap, lstK_ap, eIf_ap, eIfK_ap, eAn_ap, eAnK_ap, eOr_ap, eOrK_ap, okF_ap, eNo_ap, ch_ap, chA_ap, chB_ap, chC_ap, ixO_ap, ixQ_own, ixQ_bor, ixK_ap, ixL_own, ixL_bor, callO_ap, coQ_ap, coK_ap, coL_ap, tow_ok, iL_ap, iT_ap, iS_ap, iEnum_ap, enK_ap, iR_ap, sl_ap, slA_ap, slB_ap, slC_ap, gNo_ap, gSo_ap, gsK_ap, setAll, at_ok, at_exc, lf_some, chK_t, chK_f, to_ok, to_exc, blK_ap, bK_ap, nK_ap, flK_nx, flK_ret, lK_ap, uK_ap, f_nx, f_ret, f_exc, List.getElem?_cons_zero, List.getElem?_cons_succ, List.set_cons_zero, List.set_cons_succ, cond_true, cond_false, Bool.not_true, Bool.not_false, Bool.false_eq_true, if_false]
  refine for_then (P := fun x => fin0 x = _) (List.range R) (fun i => .tup [.int (i : Nat), .str (row C (f i))]) [.dat (Bo R C f), .dat (.lst []), .un, .un, .un, .un]
    (fun p r => ∃ s1 s2, r = [.dat (Bo R C f), .dat (.lst ((p.flatMap (freeRow C f)).map cD)), s1, s2, .un, .un]) ?_ ⟨_, _, rfl⟩ ?_ ?_
  · simp only [seq_ap, set_ap, setK_ap, ret_ap, retK_ap, if_ap, ifK_ap, nil_ap, exp_ap, expK_ap, par_ap, parA_ap, parB_ap, asg_ap, asgK_ap, asgQ_ap, aug_ap, augQ_ap, augK_ap, augL_ap, raise_ap, newL_ap, newK_ap, app_ap, appQ_ap, appK_ap, appL_ap, frz_ap, frzQ_ap, tv_ap, an_ap, anK_ap, or_ap, orK_ap, no_ap, noK_ap, ty_ap, e1_ap, e1K_ap, e2_ap, e2K_ap, e2L_ap, v_ap, vQ_ap, c_ap, call_ap, callK_ap, eB_ap, eBK_ap, aC_ap, aCA_ap, aCB_ap, aN_ap, tup_ap, tupK_ap, lst_ap, lstK_ap, eIf_ap, eIfK_ap, eAn_ap, eAnK_ap, eOr_ap, eOrK_ap, okF_ap, eNo_ap, ch_ap, chA_ap, chB_ap, chC_ap, ixO_ap, ixQ_own, ixQ_bor, ixK_ap, ixL_own, ixL_bor, callO_ap, coQ_ap, coK_ap, coL_ap, tow_ok, iL_ap, iT_ap, iS_ap, iEnum_ap, enK_ap, iR_ap, sl_ap, slA_ap, slB_ap, slC_ap, gNo_ap, gSo_ap, gsK_ap, setAll, at_ok, at_exc, lf_some, chK_t, chK_f, to_ok, to_exc, blK_ap, bK_ap, nK_ap, flK_nx, flK_ret, lK_ap, uK_ap, f_nx, f_ret, f_exc, List.getElem?_cons_zero, List.getElem?_cons_succ, List.set_cons_zero, List.set_cons_succ, cond_true, cond_false, Bool.not_true, Bool.not_false, Bool.false_eq_true, if_false, uK_Bo, mapIdx_range]
  · rintro p i ⟨t, ht⟩ r ⟨s1, s2, rfl⟩
    refine ⟨_, rfl, ?_⟩
    simp only [seq_ap, set_ap, setK_ap, ret_ap, retK_ap, if_ap, ifK_ap, nil_ap, exp_ap, expK_ap, par_ap, parA_ap, parB_ap, asg_ap, asgK_ap, asgQ_ap, aug_ap, augQ_ap, augK_ap, augL_ap, raise_ap, newL_ap, newK_ap, app_ap, appQ_ap, appK_ap, appL_ap, frz_ap, frzQ_ap, tv_ap, an_ap, anK_ap, or_ap, orK_ap, no_ap, noK_ap, ty_ap, e1_ap, e1K_ap, e2_ap, e2K_ap, e2L_ap, v_ap, vQ_ap, c_ap, call_ap, callK_ap, eB_ap, eBK_ap, aC_ap, aCA_ap, aCB_ap, aN_ap, tup_ap, tupK_ap, lst_ap, lstK_ap, eIf_ap, eIfK_ap, eAn_ap, eAnK_ap, eOr_ap, eOrK_ap, okF_ap, eNo_ap, ch_ap, chA_ap, chB_ap, chC_ap, ixO_ap, ixQ_own, ixQ_bor, ixK_ap, ixL_own, ixL_bor, callO_ap, coQ_ap, coK_ap, coL_ap, tow_ok, iL_ap, iT_ap, iS_ap, iEnum_ap, enK_ap, iR_ap, sl_ap, slA_ap, slB_ap, slC_ap, gNo_ap, gSo_ap, gsK_ap, setAll, at_ok, at_exc, lf_some, chK_t, chK_f, to_ok, to_exc, blK_ap, bK_ap, nK_ap, flK_nx, flK_ret, lK_ap, uK_ap, f_nx, f_ret, f_exc, List.getElem?_cons_zero, List.getElem?_cons_succ, List.set_cons_zero, List.set_cons_succ, cond_true, cond_false, Bool.not_true, Bool.not_false, Bool.false_eq_true, if_false]
    rw [lc_T (List.range C) (fun j => .int (j : Nat)) (fun j => .str [f i j]) (fun j => frS (f i j)) (fun j => cD (i, j)) (by decide)]
    · have e : ((List.range C).filter fun j => frS (f i j)).map (fun j => cD (i, j)) = (freeRow C f i).map cD := by
        unfold freeRow
        rw [List.map_map]
        rfl
      simp only [seq_ap, set_ap, setK_ap, ret_ap, retK_ap, if_ap, ifK_ap, nil_ap, exp_ap, expK_ap, par_ap, parA_ap, parB_ap, asg_ap, asgK_ap, asgQ_ap, aug_ap, augQ_ap, augK_ap, augL_ap, raise_ap, newL_ap, newK_ap, app_ap, appQ_ap, appK_ap, appL_ap, frz_ap, frzQ_ap, tv_ap, an_ap, anK_ap, or_ap, orK_ap, no_ap, noK_ap, ty_ap, e1_ap, e1K_ap, e2_ap, e2K_ap, e2L_ap, v_ap, vQ_ap, c_ap, call_ap, callK_ap, eB_ap, eBK_ap, aC_ap, aCA_ap, aCB_ap, aN_ap, tup_ap, tupK_ap, lst_ap, lstK_ap, eIf_ap, eIfK_ap, eAn_ap, eAnK_ap, eOr_ap, eOrK_ap, okF_ap, eNo_ap, ch_ap, chA_ap, chB_ap, chC_ap, ixO_ap, ixQ_own, ixQ_bor, ixK_ap, ixL_own, ixL_bor, callO_ap, coQ_ap, coK_ap, coL_ap, tow_ok, iL_ap, iT_ap, iS_ap, iEnum_ap, enK_ap, iR_ap, sl_ap, slA_ap, slB_ap, slC_ap, gNo_ap, gSo_ap, gsK_ap, setAll, at_ok, at_exc, lf_some, chK_t, chK_f, to_ok, to_exc, blK_ap, bK_ap, nK_ap, flK_nx, flK_ret, lK_ap, uK_ap, f_nx, f_ret, f_exc, List.getElem?_cons_zero, List.getElem?_cons_succ, List.set_cons_zero, List.set_cons_succ, cond_true, cond_false, Bool.not_true, Bool.not_false, Bool.false_eq_true, if_false, opAdd, e]
      rw [if_pos]
      · simp only [seq_ap, set_ap, setK_ap, ret_ap, retK_ap, if_ap, ifK_ap, nil_ap, exp_ap, expK_ap, par_ap, parA_ap, parB_ap, asg_ap, asgK_ap, asgQ_ap, aug_ap, augQ_ap, augK_ap, augL_ap, raise_ap, newL_ap, newK_ap, app_ap, appQ_ap, appK_ap, appL_ap, frz_ap, frzQ_ap, tv_ap, an_ap, anK_ap, or_ap, orK_ap, no_ap, noK_ap, ty_ap, e1_ap, e1K_ap, e2_ap, e2K_ap, e2L_ap, v_ap, vQ_ap, c_ap, call_ap, callK_ap, eB_ap, eBK_ap, aC_ap, aCA_ap, aCB_ap, aN_ap, tup_ap, tupK_ap, lst_ap, lstK_ap, eIf_ap, eIfK_ap, eAn_ap, eAnK_ap, eOr_ap, eOrK_ap, okF_ap, eNo_ap, ch_ap, chA_ap, chB_ap, chC_ap, ixO_ap, ixQ_own, ixQ_bor, ixK_ap, ixL_own, ixL_bor, callO_ap, coQ_ap, coK_ap, coL_ap, tow_ok, iL_ap, iT_ap, iS_ap, iEnum_ap, enK_ap, iR_ap, sl_ap, slA_ap, slB_ap, slC_ap, gNo_ap, gSo_ap, gsK_ap, setAll, at_ok, at_exc, lf_some, chK_t, chK_f, to_ok, to_exc, blK_ap, bK_ap, nK_ap, flK_nx, flK_ret, lK_ap, uK_ap, f_nx, f_ret, f_exc, List.getElem?_cons_zero, List.getElem?_cons_succ, List.set_cons_zero, List.set_cons_succ, cond_true, cond_false, Bool.not_true, Bool.not_false, Bool.false_eq_true, if_false]
        exact nx_ok ⟨_, _, by simp only [List.flatMap_append, List.map_append, List.flatMap_cons, List.flatMap_nil, List.append_nil]; rfl⟩
      · have := free_len (f := f) h
        rw [free_rows, ← ht] at this
        simp only [List.flatMap_append, List.flatMap_cons, List.length_append, List.flatMap_nil, List.append_nil] at this
        simp only [List.length_map, lim]
        omega
    · simp only [seq_ap, set_ap, setK_ap, ret_ap, retK_ap, if_ap, ifK_ap, nil_ap, exp_ap, expK_ap, par_ap, parA_ap, parB_ap, asg_ap, asgK_ap, asgQ_ap, aug_ap, augQ_ap, augK_ap, augL_ap, raise_ap, newL_ap, newK_ap, app_ap, appQ_ap, appK_ap, appL_ap, frz_ap, frzQ_ap, tv_ap, an_ap, anK_ap, or_ap, orK_ap, no_ap, noK_ap, ty_ap, e1_ap, e1K_ap, e2_ap, e2K_ap, e2L_ap, v_ap, vQ_ap, c_ap, call_ap, callK_ap, eB_ap, eBK_ap, aC_ap, aCA_ap, aCB_ap, aN_ap, tup_ap, tupK_ap, lst_ap, lstK_ap, eIf_ap, eIfK_ap, eAn_ap, eAnK_ap, eOr_ap, eOrK_ap, okF_ap, eNo_ap, ch_ap, chA_ap, chB_ap, chC_ap, ixO_ap, ixQ_own, ixQ_bor, ixK_ap, ixL_own, ixL_bor, callO_ap, coQ_ap, coK_ap, coL_ap, tow_ok, iL_ap, iT_ap, iS_ap, iEnum_ap, enK_ap, iR_ap, sl_ap, slA_ap, slB_ap, slC_ap, gNo_ap, gSo_ap, gsK_ap, setAll, at_ok, at_exc, lf_some, chK_t, chK_f, to_ok, to_exc, blK_ap, bK_ap, nK_ap, flK_nx, flK_ret, lK_ap, uK_ap, f_nx, f_ret, f_exc, List.getElem?_cons_zero, List.getElem?_cons_succ, List.set_cons_zero, List.set_cons_succ, cond_true, cond_false, Bool.not_true, Bool.not_false, Bool.false_eq_true, if_false, sK_row, mapIdx_range]
    · have := h.c4
      exact ⟨rfl, rfl, ltL rfl, ltL rfl, by simp [lim]; omega⟩
    · intro j hj
      simp only [seq_ap, set_ap, setK_ap, ret_ap, retK_ap, if_ap, ifK_ap, nil_ap, exp_ap, expK_ap, par_ap, parA_ap, parB_ap, asg_ap, asgK_ap, asgQ_ap, aug_ap, augQ_ap, augK_ap, augL_ap, raise_ap, newL_ap, newK_ap, app_ap, appQ_ap, appK_ap, appL_ap, frz_ap, frzQ_ap, tv_ap, an_ap, anK_ap, or_ap, orK_ap, no_ap, noK_ap, ty_ap, e1_ap, e1K_ap, e2_ap, e2K_ap, e2L_ap, v_ap, vQ_ap, c_ap, call_ap, callK_ap, eB_ap, eBK_ap, aC_ap, aCA_ap, aCB_ap, aN_ap, tup_ap, tupK_ap, lst_ap, lstK_ap, eIf_ap, eIfK_ap, eAn_ap, eAnK_ap, eOr_ap, eOrK_ap, okF_ap, eNo_ap, ch_ap, chA_ap, chB_ap, chC_ap, ixO_ap, ixQ_own, ixQ_bor, ixK_ap, ixL_own, ixL_bor, callO_ap, coQ_ap, coK_ap, coL_ap, tow_ok, iL_ap, iT_ap, iS_ap, iEnum_ap, enK_ap, iR_ap, sl_ap, slA_ap, slB_ap, slC_ap, gNo_ap, gSo_ap, gsK_ap, setAll, at_ok, at_exc, lf_some, chK_t, chK_f, to_ok, to_exc, blK_ap, bK_ap, nK_ap, flK_nx, flK_ret, lK_ap, uK_ap, f_nx, f_ret, f_exc, List.getElem?_cons_zero, List.getElem?_cons_succ, List.set_cons_zero, List.set_cons_succ, cond_true, cond_false, Bool.not_true, Bool.not_false, Bool.false_eq_true, if_false, in_fr]
      exact ⟨trivial, fun _ => rfl⟩
  · rintro r' ⟨s1, s2, rfl⟩
    simp only [seq_ap, set_ap, setK_ap, ret_ap, retK_ap, if_ap, ifK_ap, nil_ap, exp_ap, expK_ap, par_ap, parA_ap, parB_ap, asg_ap, asgK_ap, asgQ_ap, aug_ap, augQ_ap, augK_ap, augL_ap, raise_ap, newL_ap, newK_ap, app_ap, appQ_ap, appK_ap, appL_ap, frz_ap, frzQ_ap, tv_ap, an_ap, anK_ap, or_ap, orK_ap, no_ap, noK_ap, ty_ap, e1_ap, e1K_ap, e2_ap, e2K_ap, e2L_ap, v_ap, vQ_ap, c_ap, call_ap, callK_ap, eB_ap, eBK_ap, aC_ap, aCA_ap, aCB_ap, aN_ap, tup_ap, tupK_ap, lst_ap, lstK_ap, eIf_ap, eIfK_ap, eAn_ap, eAnK_ap, eOr_ap, eOrK_ap, okF_ap, eNo_ap, ch_ap, chA_ap, chB_ap, chC_ap, ixO_ap, ixQ_own, ixQ_bor, ixK_ap, ixL_own, ixL_bor, callO_ap, coQ_ap, coK_ap, coL_ap, tow_ok, iL_ap, iT_ap, iS_ap, iEnum_ap, enK_ap, iR_ap, sl_ap, slA_ap, slB_ap, slC_ap, gNo_ap, gSo_ap, gsK_ap, setAll, at_ok, at_exc, lf_some, chK_t, chK_f, to_ok, to_exc, blK_ap, bK_ap, nK_ap, flK_nx, flK_ret, lK_ap, uK_ap, f_nx, f_ret, f_exc, List.getElem?_cons_zero, List.getElem?_cons_succ, List.set_cons_zero, List.set_cons_succ, cond_true, cond_false, Bool.not_true, Bool.not_false, Bool.false_eq_true, if_false, free_rows]
theorem lfree_ok (h : Sh R C) : D__law_free [Bo R C f] = .ok (.lst ((freeOf R C f).map cD)) := free_body h rfl
theorem free_ok (h : Sh R C) : D_free_cells [Bo R C f] = .ok (.lst ((freeOf R C f).map cD)) := free_body h rfl
/-! ### drawn, laid -/
theorem pre_len {n : Nat} {p : List Nat} {i : Nat} (h : p ++ [i] <+: List.range n) : i < n ∧ p = List.range i := by
  obtain ⟨t, ht⟩ := h
  have hl := congrArg List.length ht
  simp only [List.length_append, List.length_cons, List.length_nil, List.length_range] at hl
  have h1 : (List.range n)[p.length]? = some i := by rw [← ht]; simp
  rw [List.getElem?_eq_getElem (by simp; omega)] at h1
  simp only [List.getElem_range, Option.some.injEq] at h1
  subst h1
  refine ⟨by omega, ?_⟩
  apply List.ext_getElem
  · simp
  · intro k hk1 hk2
    have : (List.range n)[k]? = p[k]? := by rw [← ht, List.append_assoc, List.getElem?_append_left hk1]
    rw [List.getElem?_eq_getElem (by simp; omega), List.getElem?_eq_getElem hk1] at this
    simpa using this.symm
theorem range_snoc (i : Nat) : List.range i ++ [i] = List.range (i + 1) := List.range_succ.symm
theorem laid_ok (h : Sh R C) {d : D} {S : List (Nat × Nat)} (hd : isCs d S) : D__law_laid [Bo R C f, d] = .ok (Bo R C (draw f S)) := by
  simp only [D__law_laid, B__law_laid, run1, run2, run3, run4, Nat.reduceSub, List.replicate_succ, List.replicate_zero, Nat.reduceAdd, seq_ap, set_ap, setK_ap, ret_ap, retK_ap, if_ap, ifK_ap, nil_ap, exp_ap, expK_ap, par_ap, parA_ap, parB_ap, asg_ap, asgK_ap, asgQ_ap, aug_ap, augQ_ap, augK_ap, augL_ap, raise_ap, newL_ap, newK_ap, app_ap, appQ_ap, appK_ap, appL_ap, frz_ap, frzQ_ap, tv_ap, an_ap, anK_ap, or_ap, orK_ap, no_ap, noK_ap, ty_ap, e1_ap, e1K_ap, e2_ap, e2K_ap, e2L_ap, v_ap, vQ_ap, c_ap, call_ap, callK_ap, eB_ap, eBK_ap, aC_ap, aCA_ap, aCB_ap, aN_ap, tup_ap, tupK_ap, lst_ap, lstK_ap, eIf_ap, eIfK_ap, eAn_ap, eAnK_ap, eOr_ap, eOrK_ap, okF_ap, eNo_ap, ch_ap, chA_ap, chB_ap, chC_ap, ixO_ap, ixQ_own, ixQ_bor, ixK_ap, ixL_own, ixL_bor, callO_ap, coQ_ap, coK_ap, coL_ap, tow_ok, iL_ap, iT_ap, iS_ap, iEnum_ap, enK_ap, iR_ap, sl_ap, slA_ap, slB_ap, slC_ap, gNo_ap, gSo_ap, gsK_ap, setAll, at_ok, at_exc, lf_some, chK_t, chK_f, to_ok, to_exc, blK_ap, bK_ap, nK_ap, flK_nx, flK_ret, lK_ap, uK_ap, f_nx, f_ret, f_exc, List.getElem?_cons_zero, List.getElem?_cons_succ, List.set_cons_zero, List.set_cons_succ, cond_true, cond_false, Bool.not_true, Bool.not_false, Bool.false_eq_true, if_false]
  refine for_then (P := fun x => fin0 x = _) (List.range R) (fun i => .tup [.int (i : Nat), .str (row C (f i))]) [.dat (Bo R C f), .dat d, .own [], .un, .un, .un, .un, .un]
    (fun p r => ∃ s1 s2 s3 s4 s5, r = [.dat (Bo R C f), .dat d, .own (p.map fun i => .str (row C (draw f S i))), s1, s2, s3, s4, s5]) ?_ ⟨_, _, _, _, _, rfl⟩ ?_ ?_
  · simp only [seq_ap, set_ap, setK_ap, ret_ap, retK_ap, if_ap, ifK_ap, nil_ap, exp_ap, expK_ap, par_ap, parA_ap, parB_ap, asg_ap, asgK_ap, asgQ_ap, aug_ap, augQ_ap, augK_ap, augL_ap, raise_ap, newL_ap, newK_ap, app_ap, appQ_ap, appK_ap, appL_ap, frz_ap, frzQ_ap, tv_ap, an_ap, anK_ap, or_ap, orK_ap, no_ap, noK_ap, ty_ap, e1_ap, e1K_ap, e2_ap, e2K_ap, e2L_ap, v_ap, vQ_ap, c_ap, call_ap, callK_ap, eB_ap, eBK_ap, aC_ap, aCA_ap, aCB_ap, aN_ap, tup_ap, tupK_ap, lst_ap, lstK_ap, eIf_ap, eIfK_ap, eAn_ap, eAnK_ap, eOr_ap, eOrK_ap, okF_ap, eNo_ap, ch_ap, chA_ap, chB_ap, chC_ap, ixO_ap, ixQ_own, ixQ_bor, ixK_ap, ixL_own, ixL_bor, callO_ap, coQ_ap, coK_ap, coL_ap, tow_ok, iL_ap, iT_ap, iS_ap, iEnum_ap, enK_ap, iR_ap, sl_ap, slA_ap, slB_ap, slC_ap, gNo_ap, gSo_ap, gsK_ap, setAll, at_ok, at_exc, lf_some, chK_t, chK_f, to_ok, to_exc, blK_ap, bK_ap, nK_ap, flK_nx, flK_ret, lK_ap, uK_ap, f_nx, f_ret, f_exc, List.getElem?_cons_zero, List.getElem?_cons_succ, List.set_cons_zero, List.set_cons_succ, cond_true, cond_false, Bool.not_true, Bool.not_false, Bool.false_eq_true, if_false, uK_Bo, mapIdx_range]
  · rintro p i hp r ⟨s1, s2, s3, s4, s5, rfl⟩
    obtain ⟨hi, rfl⟩ := pre_len hp
    refine ⟨_, rfl, ?_⟩
    simp only [seq_ap, set_ap, setK_ap, ret_ap, retK_ap, if_ap, ifK_ap, nil_ap, exp_ap, expK_ap, par_ap, parA_ap, parB_ap, asg_ap, asgK_ap, asgQ_ap, aug_ap, augQ_ap, augK_ap, augL_ap, raise_ap, newL_ap, newK_ap, app_ap, appQ_ap, appK_ap, appL_ap, frz_ap, frzQ_ap, tv_ap, an_ap, anK_ap, or_ap, orK_ap, no_ap, noK_ap, ty_ap, e1_ap, e1K_ap, e2_ap, e2K_ap, e2L_ap, v_ap, vQ_ap, c_ap, call_ap, callK_ap, eB_ap, eBK_ap, aC_ap, aCA_ap, aCB_ap, aN_ap, tup_ap, tupK_ap, lst_ap, lstK_ap, eIf_ap, eIfK_ap, eAn_ap, eAnK_ap, eOr_ap, eOrK_ap, okF_ap, eNo_ap, ch_ap, chA_ap, chB_ap, chC_ap, ixO_ap, ixQ_own, ixQ_bor, ixK_ap, ixL_own, ixL_bor, callO_ap, coQ_ap, coK_ap, coL_ap, tow_ok, iL_ap, iT_ap, iS_ap, iEnum_ap, enK_ap, iR_ap, sl_ap, slA_ap, slB_ap, slC_ap, gNo_ap, gSo_ap, gsK_ap, setAll, at_ok, at_exc, lf_some, chK_t, chK_f, to_ok, to_exc, blK_ap, bK_ap, nK_ap, flK_nx, flK_ret, lK_ap, uK_ap, f_nx, f_ret, f_exc, List.getElem?_cons_zero, List.getElem?_cons_succ, List.set_cons_zero, List.set_cons_succ, cond_true, cond_false, Bool.not_true, Bool.not_false, Bool.false_eq_true, if_false]
    refine for_then (P := fun x => Nx x _) (List.range C) (fun j => .tup [.int (j : Nat), .str [f i j]]) [.dat (Bo R C f), .dat d, .own ((List.range i).map fun i => .str (row C (draw f S i))), .dat (.int i), .dat (.str (row C (f i))), .own [], s4, s5]
      (fun p r => ∃ s4 s5, r = [.dat (Bo R C f), .dat d, .own ((List.range i).map fun i => .str (row C (draw f S i))), .dat (.int i), .dat (.str (row C (f i))), .own (p.map fun j => .str [draw f S i j]), s4, s5]) ?_ ⟨_, _, rfl⟩ ?_ ?_
    · simp only [seq_ap, set_ap, setK_ap, ret_ap, retK_ap, if_ap, ifK_ap, nil_ap, exp_ap, expK_ap, par_ap, parA_ap, parB_ap, asg_ap, asgK_ap, asgQ_ap, aug_ap, augQ_ap, augK_ap, augL_ap, raise_ap, newL_ap, newK_ap, app_ap, appQ_ap, appK_ap, appL_ap, frz_ap, frzQ_ap, tv_ap, an_ap, anK_ap, or_ap, orK_ap, no_ap, noK_ap, ty_ap, e1_ap, e1K_ap, e2_ap, e2K_ap, e2L_ap, v_ap, vQ_ap, c_ap, call_ap, callK_ap, eB_ap, eBK_ap, aC_ap, aCA_ap, aCB_ap, aN_ap, tup_ap, tupK_ap, lst_ap, lstK_ap, eIf_ap, eIfK_ap, eAn_ap, eAnK_ap, eOr_ap, eOrK_ap, okF_ap, eNo_ap, ch_ap, chA_ap, chB_ap, chC_ap, ixO_ap, ixQ_own, ixQ_bor, ixK_ap, ixL_own, ixL_bor, callO_ap, coQ_ap, coK_ap, coL_ap, tow_ok, iL_ap, iT_ap, iS_ap, iEnum_ap, enK_ap, iR_ap, sl_ap, slA_ap, slB_ap, slC_ap, gNo_ap, gSo_ap, gsK_ap, setAll, at_ok, at_exc, lf_some, chK_t, chK_f, to_ok, to_exc, blK_ap, bK_ap, nK_ap, flK_nx, flK_ret, lK_ap, uK_ap, f_nx, f_ret, f_exc, List.getElem?_cons_zero, List.getElem?_cons_succ, List.set_cons_zero, List.set_cons_succ, cond_true, cond_false, Bool.not_true, Bool.not_false, Bool.false_eq_true, if_false, sK_row, mapIdx_range]
    · rintro p j hp r ⟨s4, s5, rfl⟩
      obtain ⟨hj, rfl⟩ := pre_len hp
      refine ⟨_, rfl, ?_⟩
      have e : D.tup [.int i, .int j] = cD (i, j) := rfl
      have l1 : (List.map (fun j => D.str [draw f S i j]) (List.range j)).length < lim := by
        have := h.c4
        simp [lim]
        omega
      cases hl : laS (f i j) with
      | true =>
        have e2 : draw f S i j = f i j := by simp [draw, hl]
        simp only [seq_ap, set_ap, setK_ap, ret_ap, retK_ap, if_ap, ifK_ap, nil_ap, exp_ap, expK_ap, par_ap, parA_ap, parB_ap, asg_ap, asgK_ap, asgQ_ap, aug_ap, augQ_ap, augK_ap, augL_ap, raise_ap, newL_ap, newK_ap, app_ap, appQ_ap, appK_ap, appL_ap, frz_ap, frzQ_ap, tv_ap, an_ap, anK_ap, or_ap, orK_ap, no_ap, noK_ap, ty_ap, e1_ap, e1K_ap, e2_ap, e2K_ap, e2L_ap, v_ap, vQ_ap, c_ap, call_ap, callK_ap, eB_ap, eBK_ap, aC_ap, aCA_ap, aCB_ap, aN_ap, tup_ap, tupK_ap, lst_ap, lstK_ap, eIf_ap, eIfK_ap, eAn_ap, eAnK_ap, eOr_ap, eOrK_ap, okF_ap, eNo_ap, ch_ap, chA_ap, chB_ap, chC_ap, ixO_ap, ixQ_own, ixQ_bor, ixK_ap, ixL_own, ixL_bor, callO_ap, coQ_ap, coK_ap, coL_ap, tow_ok, iL_ap, iT_ap, iS_ap, iEnum_ap, enK_ap, iR_ap, sl_ap, slA_ap, slB_ap, slC_ap, gNo_ap, gSo_ap, gsK_ap, setAll, at_ok, at_exc, lf_some, chK_t, chK_f, to_ok, to_exc, blK_ap, bK_ap, nK_ap, flK_nx, flK_ret, lK_ap, uK_ap, f_nx, f_ret, f_exc, List.getElem?_cons_zero, List.getElem?_cons_succ, List.set_cons_zero, List.set_cons_succ, cond_true, cond_false, Bool.not_true, Bool.not_false, Bool.false_eq_true, if_false, in_la, hl, if_pos l1]
        exact nx_ok ⟨_, _, by simp only [List.map_append, List.map_cons, List.map_nil, e2]; rfl⟩
      | false =>
        by_cases hm : (i, j) ∈ S
        · have e2 : draw f S i j = 35 := by simp [draw, hl, hm]
          simp only [seq_ap, set_ap, setK_ap, ret_ap, retK_ap, if_ap, ifK_ap, nil_ap, exp_ap, expK_ap, par_ap, parA_ap, parB_ap, asg_ap, asgK_ap, asgQ_ap, aug_ap, augQ_ap, augK_ap, augL_ap, raise_ap, newL_ap, newK_ap, app_ap, appQ_ap, appK_ap, appL_ap, frz_ap, frzQ_ap, tv_ap, an_ap, anK_ap, or_ap, orK_ap, no_ap, noK_ap, ty_ap, e1_ap, e1K_ap, e2_ap, e2K_ap, e2L_ap, v_ap, vQ_ap, c_ap, call_ap, callK_ap, eB_ap, eBK_ap, aC_ap, aCA_ap, aCB_ap, aN_ap, tup_ap, tupK_ap, lst_ap, lstK_ap, eIf_ap, eIfK_ap, eAn_ap, eAnK_ap, eOr_ap, eOrK_ap, okF_ap, eNo_ap, ch_ap, chA_ap, chB_ap, chC_ap, ixO_ap, ixQ_own, ixQ_bor, ixK_ap, ixL_own, ixL_bor, callO_ap, coQ_ap, coK_ap, coL_ap, tow_ok, iL_ap, iT_ap, iS_ap, iEnum_ap, enK_ap, iR_ap, sl_ap, slA_ap, slB_ap, slC_ap, gNo_ap, gSo_ap, gsK_ap, setAll, at_ok, at_exc, lf_some, chK_t, chK_f, to_ok, to_exc, blK_ap, bK_ap, nK_ap, flK_nx, flK_ret, lK_ap, uK_ap, f_nx, f_ret, f_exc, List.getElem?_cons_zero, List.getElem?_cons_succ, List.set_cons_zero, List.set_cons_succ, cond_true, cond_false, Bool.not_true, Bool.not_false, Bool.false_eq_true, if_false, in_la, hl, e, opIn_cs hd, decide_eq_true hm, if_pos l1]
          exact nx_ok ⟨_, _, by simp only [List.map_append, List.map_cons, List.map_nil, e2]; rfl⟩
        · have e2 : draw f S i j = 46 := by simp [draw, hl, hm]
          simp only [seq_ap, set_ap, setK_ap, ret_ap, retK_ap, if_ap, ifK_ap, nil_ap, exp_ap, expK_ap, par_ap, parA_ap, parB_ap, asg_ap, asgK_ap, asgQ_ap, aug_ap, augQ_ap, augK_ap, augL_ap, raise_ap, newL_ap, newK_ap, app_ap, appQ_ap, appK_ap, appL_ap, frz_ap, frzQ_ap, tv_ap, an_ap, anK_ap, or_ap, orK_ap, no_ap, noK_ap, ty_ap, e1_ap, e1K_ap, e2_ap, e2K_ap, e2L_ap, v_ap, vQ_ap, c_ap, call_ap, callK_ap, eB_ap, eBK_ap, aC_ap, aCA_ap, aCB_ap, aN_ap, tup_ap, tupK_ap, lst_ap, lstK_ap, eIf_ap, eIfK_ap, eAn_ap, eAnK_ap, eOr_ap, eOrK_ap, okF_ap, eNo_ap, ch_ap, chA_ap, chB_ap, chC_ap, ixO_ap, ixQ_own, ixQ_bor, ixK_ap, ixL_own, ixL_bor, callO_ap, coQ_ap, coK_ap, coL_ap, tow_ok, iL_ap, iT_ap, iS_ap, iEnum_ap, enK_ap, iR_ap, sl_ap, slA_ap, slB_ap, slC_ap, gNo_ap, gSo_ap, gsK_ap, setAll, at_ok, at_exc, lf_some, chK_t, chK_f, to_ok, to_exc, blK_ap, bK_ap, nK_ap, flK_nx, flK_ret, lK_ap, uK_ap, f_nx, f_ret, f_exc, List.getElem?_cons_zero, List.getElem?_cons_succ, List.set_cons_zero, List.set_cons_succ, cond_true, cond_false, Bool.not_true, Bool.not_false, Bool.false_eq_true, if_false, in_la, hl, e, opIn_cs hd, decide_eq_false hm, if_pos l1]
          exact nx_ok ⟨_, _, by simp only [List.map_append, List.map_cons, List.map_nil, e2]; rfl⟩
    · rintro r' ⟨s4, s5, rfl⟩
      have l1 : ((List.range i).map fun i => D.str (row C (draw f S i))).length < lim := by
        have := h.r4
        simp [lim]
        omega
      have := h.c4
      simp only [seq_ap, set_ap, setK_ap, ret_ap, retK_ap, if_ap, ifK_ap, nil_ap, exp_ap, expK_ap, par_ap, parA_ap, parB_ap, asg_ap, asgK_ap, asgQ_ap, aug_ap, augQ_ap, augK_ap, augL_ap, raise_ap, newL_ap, newK_ap, app_ap, appQ_ap, appK_ap, appL_ap, frz_ap, frzQ_ap, tv_ap, an_ap, anK_ap, or_ap, orK_ap, no_ap, noK_ap, ty_ap, e1_ap, e1K_ap, e2_ap, e2K_ap, e2L_ap, v_ap, vQ_ap, c_ap, call_ap, callK_ap, eB_ap, eBK_ap, aC_ap, aCA_ap, aCB_ap, aN_ap, tup_ap, tupK_ap, lst_ap, lstK_ap, eIf_ap, eIfK_ap, eAn_ap, eAnK_ap, eOr_ap, eOrK_ap, okF_ap, eNo_ap, ch_ap, chA_ap, chB_ap, chC_ap, ixO_ap, ixQ_own, ixQ_bor, ixK_ap, ixL_own, ixL_bor, callO_ap, coQ_ap, coK_ap, coL_ap, tow_ok, iL_ap, iT_ap, iS_ap, iEnum_ap, enK_ap, iR_ap, sl_ap, slA_ap, slB_ap, slC_ap, gNo_ap, gSo_ap, gsK_ap, setAll, at_ok, at_exc, lf_some, chK_t, chK_f, to_ok, to_exc, blK_ap, bK_ap, nK_ap, flK_nx, flK_ret, lK_ap, uK_ap, f_nx, f_ret, f_exc, List.getElem?_cons_zero, List.getElem?_cons_succ, List.set_cons_zero, List.set_cons_succ, cond_true, cond_false, Bool.not_true, Bool.not_false, Bool.false_eq_true, if_false, join_row (g := draw f S i) C (by omega), if_pos l1]
      exact nx_ok ⟨_, _, _, _, _, by rw [range_snoc, ← range_snoc, List.map_append]; rfl⟩
  · rintro r' ⟨s1, s2, s3, s4, s5, rfl⟩
    simp only [seq_ap, set_ap, setK_ap, ret_ap, retK_ap, if_ap, ifK_ap, nil_ap, exp_ap, expK_ap, par_ap, parA_ap, parB_ap, asg_ap, asgK_ap, asgQ_ap, aug_ap, augQ_ap, augK_ap, augL_ap, raise_ap, newL_ap, newK_ap, app_ap, appQ_ap, appK_ap, appL_ap, frz_ap, frzQ_ap, tv_ap, an_ap, anK_ap, or_ap, orK_ap, no_ap, noK_ap, ty_ap, e1_ap, e1K_ap, e2_ap, e2K_ap, e2L_ap, v_ap, vQ_ap, c_ap, call_ap, callK_ap, eB_ap, eBK_ap, aC_ap, aCA_ap, aCB_ap, aN_ap, tup_ap, tupK_ap, lst_ap, lstK_ap, eIf_ap, eIfK_ap, eAn_ap, eAnK_ap, eOr_ap, eOrK_ap, okF_ap, eNo_ap, ch_ap, chA_ap, chB_ap, chC_ap, ixO_ap, ixQ_own, ixQ_bor, ixK_ap, ixL_own, ixL_bor, callO_ap, coQ_ap, coK_ap, coL_ap, tow_ok, iL_ap, iT_ap, iS_ap, iEnum_ap, enK_ap, iR_ap, sl_ap, slA_ap, slB_ap, slC_ap, gNo_ap, gSo_ap, gsK_ap, setAll, at_ok, at_exc, lf_some, chK_t, chK_f, to_ok, to_exc, blK_ap, bK_ap, nK_ap, flK_nx, flK_ret, lK_ap, uK_ap, f_nx, f_ret, f_exc, List.getElem?_cons_zero, List.getElem?_cons_succ, List.set_cons_zero, List.set_cons_succ, cond_true, cond_false, Bool.not_true, Bool.not_false, Bool.false_eq_true, if_false, tuple_rows]
end
end FB
namespace FB
section
variable {R C : Nat} {f : F2}
/-! ### neighbours -/
def cand (i j : Int) : List (Int × Int) := [(i - 1, j), (i, j - 1), (i, j + 1), (i + 1, j)]
def inR (R C : Int) (p : Int × Int) : Bool := (decide (0 ≤ p.1) && decide (p.1 < R)) && (decide (0 ≤ p.2) && decide (p.2 < C))
theorem all4 {P : Nat → Nat → Nat → Nat → Bool} (h : ((List.range 5).all fun R => (List.range 5).all fun C => (List.range R).all fun i => (List.range C).all fun j => P R C i j) = true) (hs : Sh R C) {i j : Nat} (hi : i < R) (hj : j < C) : P R C i j = true := by
  have h1 := hs.r4
  have h2 := hs.c4
  have a := List.all_eq_true.mp h R (List.mem_range.mpr (by omega))
  have b := List.all_eq_true.mp a C (List.mem_range.mpr (by omega))
  have c := List.all_eq_true.mp b i (List.mem_range.mpr hi)
  exact List.all_eq_true.mp c j (List.mem_range.mpr hj)
theorem cand_nb0 : ((List.range 5).all fun R => (List.range 5).all fun C => (List.range R).all fun i => (List.range C).all fun j => decide ((cand i j).filter (inR R C) = (nb R C (i, j)).map fun p => ((p.1 : Int), (p.2 : Int)))) = true := by decide +kernel
theorem cand_nb (h : Sh R C) {i j : Nat} (hi : i < R) (hj : j < C) : (cand i j).filter (inR R C) = (nb R C (i, j)).map fun p => ((p.1 : Int), (p.2 : Int)) :=
  of_decide_eq_true (all4 cand_nb0 h hi hj)
def iD (p : Int × Int) : D := .tup [.int p.1, .int p.2]
theorem nbrs_ok (h : Sh R C) {p : Nat × Nat} (hp : p.1 < R ∧ p.2 < C) : D_neighbours [Bo R C f, cD p] = .ok (.lst ((nb R C p).map cD)) := by
  have hR : 0 < R := h.r1
  simp only [D_neighbours, B_neighbours, cD, gT, List.length_cons, List.length_nil, if_true, opSub, opAdd, run1, run2, run3, run4, Nat.reduceSub, List.replicate_succ, List.replicate_zero, Nat.reduceAdd, seq_ap, set_ap, setK_ap, ret_ap, retK_ap, if_ap, ifK_ap, nil_ap, exp_ap, expK_ap, par_ap, parA_ap, parB_ap, asg_ap, asgK_ap, asgQ_ap, aug_ap, augQ_ap, augK_ap, augL_ap, raise_ap, newL_ap, newK_ap, app_ap, appQ_ap, appK_ap, appL_ap, frz_ap, frzQ_ap, tv_ap, an_ap, anK_ap, or_ap, orK_ap, no_ap, noK_ap, ty_ap, e1_ap, e1K_ap, e2_ap, e2K_ap, e2L_ap, v_ap, vQ_ap, c_ap, call_ap, callK_ap, eB_ap, eBK_ap, aC_ap, aCA_ap, aCB_ap, aN_ap, tup_ap, tupK_ap, lst_ap, lstK_ap, eIf_ap, eIfK_ap, eAn_ap, eAnK_ap, eOr_ap, eOrK_ap, okF_ap, eNo_ap, ch_ap, chA_ap, chB_ap, chC_ap, ixO_ap, ixQ_own, ixQ_bor, ixK_ap, ixL_own, ixL_bor, callO_ap, coQ_ap, coK_ap, coL_ap, tow_ok, iL_ap, iT_ap, iS_ap, iEnum_ap, enK_ap, iR_ap, sl_ap, slA_ap, slB_ap, slC_ap, gNo_ap, gSo_ap, gsK_ap, setAll, at_ok, at_exc, lf_some, chK_t, chK_f, to_ok, to_exc, blK_ap, bK_ap, nK_ap, flK_nx, flK_ret, lK_ap, uK_ap, f_nx, f_ret, f_exc, List.getElem?_cons_zero, List.getElem?_cons_succ, List.set_cons_zero, List.set_cons_succ, cond_true, cond_false, Bool.not_true, Bool.not_false, Bool.false_eq_true, if_false]
  rw [lc_T (cand p.1 p.2) (fun p => .int p.1) (fun p => .int p.2) (inR R C) iD (by decide)]
  · simp only [seq_ap, set_ap, setK_ap, ret_ap, retK_ap, if_ap, ifK_ap, nil_ap, exp_ap, expK_ap, par_ap, parA_ap, parB_ap, asg_ap, asgK_ap, asgQ_ap, aug_ap, augQ_ap, augK_ap, augL_ap, raise_ap, newL_ap, newK_ap, app_ap, appQ_ap, appK_ap, appL_ap, frz_ap, frzQ_ap, tv_ap, an_ap, anK_ap, or_ap, orK_ap, no_ap, noK_ap, ty_ap, e1_ap, e1K_ap, e2_ap, e2K_ap, e2L_ap, v_ap, vQ_ap, c_ap, call_ap, callK_ap, eB_ap, eBK_ap, aC_ap, aCA_ap, aCB_ap, aN_ap, tup_ap, tupK_ap, lst_ap, lstK_ap, eIf_ap, eIfK_ap, eAn_ap, eAnK_ap, eOr_ap, eOrK_ap, okF_ap, eNo_ap, ch_ap, chA_ap, chB_ap, chC_ap, ixO_ap, ixQ_own, ixQ_bor, ixK_ap, ixL_own, ixL_bor, callO_ap, coQ_ap, coK_ap, coL_ap, tow_ok, iL_ap, iT_ap, iS_ap, iEnum_ap, enK_ap, iR_ap, sl_ap, slA_ap, slB_ap, slC_ap, gNo_ap, gSo_ap, gsK_ap, setAll, at_ok, at_exc, lf_some, chK_t, chK_f, to_ok, to_exc, blK_ap, bK_ap, nK_ap, flK_nx, flK_ret, lK_ap, uK_ap, f_nx, f_ret, f_exc, List.getElem?_cons_zero, List.getElem?_cons_succ, List.set_cons_zero, List.set_cons_succ, cond_true, cond_false, Bool.not_true, Bool.not_false, Bool.false_eq_true, if_false]
    rw [cand_nb h hp.1 hp.2, List.map_map]
    rfl
  · simp only [seq_ap, set_ap, setK_ap, ret_ap, retK_ap, if_ap, ifK_ap, nil_ap, exp_ap, expK_ap, par_ap, parA_ap, parB_ap, asg_ap, asgK_ap, asgQ_ap, aug_ap, augQ_ap, augK_ap, augL_ap, raise_ap, newL_ap, newK_ap, app_ap, appQ_ap, appK_ap, appL_ap, frz_ap, frzQ_ap, tv_ap, an_ap, anK_ap, or_ap, orK_ap, no_ap, noK_ap, ty_ap, e1_ap, e1K_ap, e2_ap, e2K_ap, e2L_ap, v_ap, vQ_ap, c_ap, call_ap, callK_ap, eB_ap, eBK_ap, aC_ap, aCA_ap, aCB_ap, aN_ap, tup_ap, tupK_ap, lst_ap, lstK_ap, eIf_ap, eIfK_ap, eAn_ap, eAnK_ap, eOr_ap, eOrK_ap, okF_ap, eNo_ap, ch_ap, chA_ap, chB_ap, chC_ap, ixO_ap, ixQ_own, ixQ_bor, ixK_ap, ixL_own, ixL_bor, callO_ap, coQ_ap, coK_ap, coL_ap, tow_ok, iL_ap, iT_ap, iS_ap, iEnum_ap, enK_ap, iR_ap, sl_ap, slA_ap, slB_ap, slC_ap, gNo_ap, gSo_ap, gsK_ap, setAll, at_ok, at_exc, lf_some, chK_t, chK_f, to_ok, to_exc, blK_ap, bK_ap, nK_ap, flK_nx, flK_ret, lK_ap, uK_ap, f_nx, f_ret, f_exc, List.getElem?_cons_zero, List.getElem?_cons_succ, List.set_cons_zero, List.set_cons_succ, cond_true, cond_false, Bool.not_true, Bool.not_false, Bool.false_eq_true, if_false]
    rfl
  · exact ⟨rfl, rfl, ltL rfl, ltL rfl, by show 4 ≤ 100000; decide⟩
  · intro q hq
    refine ⟨?_, fun _ => by simp only [seq_ap, set_ap, setK_ap, ret_ap, retK_ap, if_ap, ifK_ap, nil_ap, exp_ap, expK_ap, par_ap, parA_ap, parB_ap, asg_ap, asgK_ap, asgQ_ap, aug_ap, augQ_ap, augK_ap, augL_ap, raise_ap, newL_ap, newK_ap, app_ap, appQ_ap, appK_ap, appL_ap, frz_ap, frzQ_ap, tv_ap, an_ap, anK_ap, or_ap, orK_ap, no_ap, noK_ap, ty_ap, e1_ap, e1K_ap, e2_ap, e2K_ap, e2L_ap, v_ap, vQ_ap, c_ap, call_ap, callK_ap, eB_ap, eBK_ap, aC_ap, aCA_ap, aCB_ap, aN_ap, tup_ap, tupK_ap, lst_ap, lstK_ap, eIf_ap, eIfK_ap, eAn_ap, eAnK_ap, eOr_ap, eOrK_ap, okF_ap, eNo_ap, ch_ap, chA_ap, chB_ap, chC_ap, ixO_ap, ixQ_own, ixQ_bor, ixK_ap, ixL_own, ixL_bor, callO_ap, coQ_ap, coK_ap, coL_ap, tow_ok, iL_ap, iT_ap, iS_ap, iEnum_ap, enK_ap, iR_ap, sl_ap, slA_ap, slB_ap, slC_ap, gNo_ap, gSo_ap, gsK_ap, setAll, at_ok, at_exc, lf_some, chK_t, chK_f, to_ok, to_exc, blK_ap, bK_ap, nK_ap, flK_nx, flK_ret, lK_ap, uK_ap, f_nx, f_ret, f_exc, List.getElem?_cons_zero, List.getElem?_cons_succ, List.set_cons_zero, List.set_cons_succ, cond_true, cond_false, Bool.not_true, Bool.not_false, Bool.false_eq_true, if_false]; rfl⟩
    simp only [seq_ap, set_ap, setK_ap, ret_ap, retK_ap, if_ap, ifK_ap, nil_ap, exp_ap, expK_ap, par_ap, parA_ap, parB_ap, asg_ap, asgK_ap, asgQ_ap, aug_ap, augQ_ap, augK_ap, augL_ap, raise_ap, newL_ap, newK_ap, app_ap, appQ_ap, appK_ap, appL_ap, frz_ap, frzQ_ap, tv_ap, an_ap, anK_ap, or_ap, orK_ap, no_ap, noK_ap, ty_ap, e1_ap, e1K_ap, e2_ap, e2K_ap, e2L_ap, v_ap, vQ_ap, c_ap, call_ap, callK_ap, eB_ap, eBK_ap, aC_ap, aCA_ap, aCB_ap, aN_ap, tup_ap, tupK_ap, lst_ap, lstK_ap, eIf_ap, eIfK_ap, eAn_ap, eAnK_ap, eOr_ap, eOrK_ap, okF_ap, eNo_ap, ch_ap, chA_ap, chB_ap, chC_ap, ixO_ap, ixQ_own, ixQ_bor, ixK_ap, ixL_own, ixL_bor, callO_ap, coQ_ap, coK_ap, coL_ap, tow_ok, iL_ap, iT_ap, iS_ap, iEnum_ap, enK_ap, iR_ap, sl_ap, slA_ap, slB_ap, slC_ap, gNo_ap, gSo_ap, gsK_ap, setAll, at_ok, at_exc, lf_some, chK_t, chK_f, to_ok, to_exc, blK_ap, bK_ap, nK_ap, flK_nx, flK_ret, lK_ap, uK_ap, f_nx, f_ret, f_exc, List.getElem?_cons_zero, List.getElem?_cons_succ, List.set_cons_zero, List.set_cons_succ, cond_true, cond_false, Bool.not_true, Bool.not_false, Bool.false_eq_true, if_false, opLe, opLt, len_Bo, ix_Bo0 hR, len_row, inR]
    cases h1 : decide (0 ≤ q.1) <;> cases h2 : decide (q.1 < (R : Int)) <;> cases h3 : decide (0 ≤ q.2) <;> cases h4 : decide (q.2 < (C : Int)) <;> simp only [seq_ap, set_ap, setK_ap, ret_ap, retK_ap, if_ap, ifK_ap, nil_ap, exp_ap, expK_ap, par_ap, parA_ap, parB_ap, asg_ap, asgK_ap, asgQ_ap, aug_ap, augQ_ap, augK_ap, augL_ap, raise_ap, newL_ap, newK_ap, app_ap, appQ_ap, appK_ap, appL_ap, frz_ap, frzQ_ap, tv_ap, an_ap, anK_ap, or_ap, orK_ap, no_ap, noK_ap, ty_ap, e1_ap, e1K_ap, e2_ap, e2K_ap, e2L_ap, v_ap, vQ_ap, c_ap, call_ap, callK_ap, eB_ap, eBK_ap, aC_ap, aCA_ap, aCB_ap, aN_ap, tup_ap, tupK_ap, lst_ap, lstK_ap, eIf_ap, eIfK_ap, eAn_ap, eAnK_ap, eOr_ap, eOrK_ap, okF_ap, eNo_ap, ch_ap, chA_ap, chB_ap, chC_ap, ixO_ap, ixQ_own, ixQ_bor, ixK_ap, ixL_own, ixL_bor, callO_ap, coQ_ap, coK_ap, coL_ap, tow_ok, iL_ap, iT_ap, iS_ap, iEnum_ap, enK_ap, iR_ap, sl_ap, slA_ap, slB_ap, slC_ap, gNo_ap, gSo_ap, gsK_ap, setAll, at_ok, at_exc, lf_some, chK_t, chK_f, to_ok, to_exc, blK_ap, bK_ap, nK_ap, flK_nx, flK_ret, lK_ap, uK_ap, f_nx, f_ret, f_exc, List.getElem?_cons_zero, List.getElem?_cons_succ, List.set_cons_zero, List.set_cons_succ, cond_true, cond_false, Bool.not_true, Bool.not_false, Bool.false_eq_true, if_false, opLe, opLt, len_Bo, ix_Bo0 hR, len_row, h2, h3, h4, Bool.and_true, Bool.and_false, Bool.true_and, Bool.false_and]
theorem nb_len (h : Sh R C) (p : Nat × Nat) : (nb R C p).length ≤ 16 := by
  refine Nat.le_trans (List.length_filter_le _ _) ?_
  unfold cellsOf
  have h1 := h.r4
  have h2 := h.c4
  rw [List.length_flatMap]
  simp only [List.length_map, List.length_range]
  rw [show (List.map (fun a => C) (List.range R)).sum = R * C by rw [List.map_const', List.sum_replicate_nat, List.length_range]]
  have := h.m
  omega
theorem nb_mem {p q : Nat × Nat} (h : q ∈ nb R C p) : q.1 < R ∧ q.2 < C := mem_cells.mp (List.mem_filter.mp h).1
def adI (i j : Nat) (p : Nat × Nat) : Bool := decide ((if (i : Int) - p.1 < 0 then -((i : Int) - p.1) else (i : Int) - p.1) + (if (j : Int) - p.2 < 0 then -((j : Int) - p.2) else (j : Int) - p.2) = 1)
theorem adI_eq (i j : Nat) (p : Nat × Nat) : adI i j p = adj p (i, j) := by
  unfold adI adj
  rw [Bool.eq_iff_iff]
  simp only [decide_eq_true_eq, Bool.or_eq_true, Bool.and_eq_true, beq_iff_eq]
  split <;> split <;> omega
def nearRow (C : Nat) (p : Nat × Nat) (i : Nat) : List (Nat × Nat) := ((List.range C).filter fun j => adj p (i, j)).map fun j => (i, j)
theorem nb_rows (p : Nat × Nat) : nb R C p = (List.range R).flatMap (nearRow C p) := by
  unfold nb cellsOf nearRow
  rw [List.filter_flatMap]
  congr 1
  funext i
  rw [List.filter_map]
  rfl
theorem near_len {p : Nat × Nat} (hC : C ≤ 4) : ∀ i, ((List.range i).flatMap (nearRow C p)).length ≤ 4 * i
  | 0 => by simp
  | i + 1 => by
    have ih := near_len (p := p) hC i
    rw [List.range_succ, List.flatMap_append, List.length_append, List.flatMap_cons, List.flatMap_nil, List.append_nil]
    have : (nearRow C p i).length ≤ C := by
      unfold nearRow
      rw [List.length_map]
      refine Nat.le_trans (List.length_filter_le _ _) ?_
      simp
    omega
theorem near_ok (h : Sh R C) {p : Nat × Nat} : D__law_near [Bo R C f, cD p] = .ok (.lst ((nb R C p).map cD)) := by
  have hC := h.c4
  simp only [D__law_near, B__law_near, run1, run2, run3, run4, Nat.reduceSub, List.replicate_succ, List.replicate_zero, Nat.reduceAdd, seq_ap, set_ap, setK_ap, ret_ap, retK_ap, if_ap, ifK_ap, nil_ap, exp_ap, expK_ap, par_ap, parA_ap, parB_ap, asg_ap, asgK_ap, asgQ_ap, aug_ap, augQ_ap, augK_ap, augL_ap, raise_ap, newL_ap, newK_ap, app_ap, appQ_ap, appK_ap, appL_ap, frz_ap, frzQ_ap, tv_ap, an_ap, anK_ap, or_ap, orK_ap, no_ap, noK_ap, ty_ap, e1_ap, e1K_ap, e2_ap, e2K_ap, e2L_ap, v_ap, vQ_ap, c_ap, call_ap, callK_ap, eB_ap, eBK_ap, aC_ap, aCA_ap, aCB_ap, aN_ap, tup_ap, tupK_ap, lst_ap, lstK_ap, eIf_ap, eIfK_ap, eAn_ap, eAnK_ap, eOr_ap, eOrK_ap, okF_ap, eNo_ap, ch_ap, chA_ap, chB_ap, chC_ap, ixO_ap, ixQ_own, ixQ_bor, ixK_ap, ixL_own, ixL_bor, callO_ap, coQ_ap, coK_ap, coL_ap, tow_ok, iL_ap, iT_ap, iS_ap, iEnum_ap, enK_ap, iR_ap, sl_ap, slA_ap, slB_ap, slC_ap, gNo_ap, gSo_ap, gsK_ap, setAll, at_ok, at_exc, lf_some, chK_t, chK_f, to_ok, to_exc, blK_ap, bK_ap, nK_ap, flK_nx, flK_ret, lK_ap, uK_ap, f_nx, f_ret, f_exc, List.getElem?_cons_zero, List.getElem?_cons_succ, List.set_cons_zero, List.set_cons_succ, cond_true, cond_false, Bool.not_true, Bool.not_false, Bool.false_eq_true, if_false]
  refine for_then (P := fun x => fin0 x = _) (List.range R) (fun i => .tup [.int (i : Nat), .str (row C (f i))]) [.dat (Bo R C f), .dat (cD p), .own [], .un, .un, .un]
    (fun q r => ∃ s1 s2 s3, r = [.dat (Bo R C f), .dat (cD p), .own ((q.flatMap (nearRow C p)).map cD), s1, s2, s3]) ?_ ⟨_, _, _, rfl⟩ ?_ ?_
  · simp only [seq_ap, set_ap, setK_ap, ret_ap, retK_ap, if_ap, ifK_ap, nil_ap, exp_ap, expK_ap, par_ap, parA_ap, parB_ap, asg_ap, asgK_ap, asgQ_ap, aug_ap, augQ_ap, augK_ap, augL_ap, raise_ap, newL_ap, newK_ap, app_ap, appQ_ap, appK_ap, appL_ap, frz_ap, frzQ_ap, tv_ap, an_ap, anK_ap, or_ap, orK_ap, no_ap, noK_ap, ty_ap, e1_ap, e1K_ap, e2_ap, e2K_ap, e2L_ap, v_ap, vQ_ap, c_ap, call_ap, callK_ap, eB_ap, eBK_ap, aC_ap, aCA_ap, aCB_ap, aN_ap, tup_ap, tupK_ap, lst_ap, lstK_ap, eIf_ap, eIfK_ap, eAn_ap, eAnK_ap, eOr_ap, eOrK_ap, okF_ap, eNo_ap, ch_ap, chA_ap, chB_ap, chC_ap, ixO_ap, ixQ_own, ixQ_bor, ixK_ap, ixL_own, ixL_bor, callO_ap, coQ_ap, coK_ap, coL_ap, tow_ok, iL_ap, iT_ap, iS_ap, iEnum_ap, enK_ap, iR_ap, sl_ap, slA_ap, slB_ap, slC_ap, gNo_ap, gSo_ap, gsK_ap, setAll, at_ok, at_exc, lf_some, chK_t, chK_f, to_ok, to_exc, blK_ap, bK_ap, nK_ap, flK_nx, flK_ret, lK_ap, uK_ap, f_nx, f_ret, f_exc, List.getElem?_cons_zero, List.getElem?_cons_succ, List.set_cons_zero, List.set_cons_succ, cond_true, cond_false, Bool.not_true, Bool.not_false, Bool.false_eq_true, if_false, uK_Bo, mapIdx_range]
  · rintro q i hq r ⟨s1, s2, s3, rfl⟩
    obtain ⟨hi, rfl⟩ := pre_len hq
    refine ⟨_, rfl, ?_⟩
    simp only [seq_ap, set_ap, setK_ap, ret_ap, retK_ap, if_ap, ifK_ap, nil_ap, exp_ap, expK_ap, par_ap, parA_ap, parB_ap, asg_ap, asgK_ap, asgQ_ap, aug_ap, augQ_ap, augK_ap, augL_ap, raise_ap, newL_ap, newK_ap, app_ap, appQ_ap, appK_ap, appL_ap, frz_ap, frzQ_ap, tv_ap, an_ap, anK_ap, or_ap, orK_ap, no_ap, noK_ap, ty_ap, e1_ap, e1K_ap, e2_ap, e2K_ap, e2L_ap, v_ap, vQ_ap, c_ap, call_ap, callK_ap, eB_ap, eBK_ap, aC_ap, aCA_ap, aCB_ap, aN_ap, tup_ap, tupK_ap, lst_ap, lstK_ap, eIf_ap, eIfK_ap, eAn_ap, eAnK_ap, eOr_ap, eOrK_ap, okF_ap, eNo_ap, ch_ap, chA_ap, chB_ap, chC_ap, ixO_ap, ixQ_own, ixQ_bor, ixK_ap, ixL_own, ixL_bor, callO_ap, coQ_ap, coK_ap, coL_ap, tow_ok, iL_ap, iT_ap, iS_ap, iEnum_ap, enK_ap, iR_ap, sl_ap, slA_ap, slB_ap, slC_ap, gNo_ap, gSo_ap, gsK_ap, setAll, at_ok, at_exc, lf_some, chK_t, chK_f, to_ok, to_exc, blK_ap, bK_ap, nK_ap, flK_nx, flK_ret, lK_ap, uK_ap, f_nx, f_ret, f_exc, List.getElem?_cons_zero, List.getElem?_cons_succ, List.set_cons_zero, List.set_cons_succ, cond_true, cond_false, Bool.not_true, Bool.not_false, Bool.false_eq_true, if_false]
    refine for_end (P := fun x => Nx x _) (List.range C) (fun j => .int (j : Nat)) [.dat (Bo R C f), .dat (cD p), .own (((List.range i).flatMap (nearRow C p)).map cD), .dat (.int i), .dat (.str (row C (f i))), s3]
      (fun q r => ∃ s3, r = [.dat (Bo R C f), .dat (cD p), .own (((List.range i).flatMap (nearRow C p) ++ (q.filter fun j => adj p (i, j)).map fun j => (i, j)).map cD), .dat (.int i), .dat (.str (row C (f i))), s3]) ?_ ⟨s3, by simp⟩ ?_ ?_
    · simp only [seq_ap, set_ap, setK_ap, ret_ap, retK_ap, if_ap, ifK_ap, nil_ap, exp_ap, expK_ap, par_ap, parA_ap, parB_ap, asg_ap, asgK_ap, asgQ_ap, aug_ap, augQ_ap, augK_ap, augL_ap, raise_ap, newL_ap, newK_ap, app_ap, appQ_ap, appK_ap, appL_ap, frz_ap, frzQ_ap, tv_ap, an_ap, anK_ap, or_ap, orK_ap, no_ap, noK_ap, ty_ap, e1_ap, e1K_ap, e2_ap, e2K_ap, e2L_ap, v_ap, vQ_ap, c_ap, call_ap, callK_ap, eB_ap, eBK_ap, aC_ap, aCA_ap, aCB_ap, aN_ap, tup_ap, tupK_ap, lst_ap, lstK_ap, eIf_ap, eIfK_ap, eAn_ap, eAnK_ap, eOr_ap, eOrK_ap, okF_ap, eNo_ap, ch_ap, chA_ap, chB_ap, chC_ap, ixO_ap, ixQ_own, ixQ_bor, ixK_ap, ixL_own, ixL_bor, callO_ap, coQ_ap, coK_ap, coL_ap, tow_ok, iL_ap, iT_ap, iS_ap, iEnum_ap, enK_ap, iR_ap, sl_ap, slA_ap, slB_ap, slC_ap, gNo_ap, gSo_ap, gsK_ap, setAll, at_ok, at_exc, lf_some, chK_t, chK_f, to_ok, to_exc, blK_ap, bK_ap, nK_ap, flK_nx, flK_ret, lK_ap, uK_ap, f_nx, f_ret, f_exc, List.getElem?_cons_zero, List.getElem?_cons_succ, List.set_cons_zero, List.set_cons_succ, cond_true, cond_false, Bool.not_true, Bool.not_false, Bool.false_eq_true, if_false, len_row, rgK_nat (show C ≤ 100000 by omega)]
    · rintro q j hq r ⟨s3, rfl⟩
      obtain ⟨hj, rfl⟩ := pre_len hq
      refine ⟨_, rfl, ?_⟩
      have e : opEq (.int ((if (i : Int) - p.1 < 0 then -((i : Int) - p.1) else (i : Int) - p.1) + (if (j : Int) - p.2 < 0 then -((j : Int) - p.2) else (j : Int) - p.2))) (.int 1) = some (.bl (adj p (i, j))) := by
        rw [← adI_eq]
        rfl
      have l1 : ((List.map cD ((List.range i).flatMap (nearRow C p) ++ ((List.range j).filter fun j => adj p (i, j)).map fun j => (i, j)))).length < lim := by
        rw [List.length_map, List.length_append, List.length_map]
        have h1 := List.length_filter_le (fun j => adj p (i, j)) (List.range j)
        have h2 := near_len (C := C) (p := p) hC i
        have := h.r4
        rw [List.length_range] at h1
        show _ < 100000
        omega
      simp only [gN, seq_ap, set_ap, setK_ap, ret_ap, retK_ap, if_ap, ifK_ap, nil_ap, exp_ap, expK_ap, par_ap, parA_ap, parB_ap, asg_ap, asgK_ap, asgQ_ap, aug_ap, augQ_ap, augK_ap, augL_ap, raise_ap, newL_ap, newK_ap, app_ap, appQ_ap, appK_ap, appL_ap, frz_ap, frzQ_ap, tv_ap, an_ap, anK_ap, or_ap, orK_ap, no_ap, noK_ap, ty_ap, e1_ap, e1K_ap, e2_ap, e2K_ap, e2L_ap, v_ap, vQ_ap, c_ap, call_ap, callK_ap, eB_ap, eBK_ap, aC_ap, aCA_ap, aCB_ap, aN_ap, tup_ap, tupK_ap, lst_ap, lstK_ap, eIf_ap, eIfK_ap, eAn_ap, eAnK_ap, eOr_ap, eOrK_ap, okF_ap, eNo_ap, ch_ap, chA_ap, chB_ap, chC_ap, ixO_ap, ixQ_own, ixQ_bor, ixK_ap, ixL_own, ixL_bor, callO_ap, coQ_ap, coK_ap, coL_ap, tow_ok, iL_ap, iT_ap, iS_ap, iEnum_ap, enK_ap, iR_ap, sl_ap, slA_ap, slB_ap, slC_ap, gNo_ap, gSo_ap, gsK_ap, setAll, at_ok, at_exc, lf_some, chK_t, chK_f, to_ok, to_exc, blK_ap, bK_ap, nK_ap, flK_nx, flK_ret, lK_ap, uK_ap, f_nx, f_ret, f_exc, List.getElem?_cons_zero, List.getElem?_cons_succ, List.set_cons_zero, List.set_cons_succ, cond_true, cond_false, Bool.not_true, Bool.not_false, Bool.false_eq_true, if_false, ix_c0, ix_c1, opSub, bAbs, opAdd, e]
      cases ha : adj p (i, j)
      · simp only [seq_ap, set_ap, setK_ap, ret_ap, retK_ap, if_ap, ifK_ap, nil_ap, exp_ap, expK_ap, par_ap, parA_ap, parB_ap, asg_ap, asgK_ap, asgQ_ap, aug_ap, augQ_ap, augK_ap, augL_ap, raise_ap, newL_ap, newK_ap, app_ap, appQ_ap, appK_ap, appL_ap, frz_ap, frzQ_ap, tv_ap, an_ap, anK_ap, or_ap, orK_ap, no_ap, noK_ap, ty_ap, e1_ap, e1K_ap, e2_ap, e2K_ap, e2L_ap, v_ap, vQ_ap, c_ap, call_ap, callK_ap, eB_ap, eBK_ap, aC_ap, aCA_ap, aCB_ap, aN_ap, tup_ap, tupK_ap, lst_ap, lstK_ap, eIf_ap, eIfK_ap, eAn_ap, eAnK_ap, eOr_ap, eOrK_ap, okF_ap, eNo_ap, ch_ap, chA_ap, chB_ap, chC_ap, ixO_ap, ixQ_own, ixQ_bor, ixK_ap, ixL_own, ixL_bor, callO_ap, coQ_ap, coK_ap, coL_ap, tow_ok, iL_ap, iT_ap, iS_ap, iEnum_ap, enK_ap, iR_ap, sl_ap, slA_ap, slB_ap, slC_ap, gNo_ap, gSo_ap, gsK_ap, setAll, at_ok, at_exc, lf_some, chK_t, chK_f, to_ok, to_exc, blK_ap, bK_ap, nK_ap, flK_nx, flK_ret, lK_ap, uK_ap, f_nx, f_ret, f_exc, List.getElem?_cons_zero, List.getElem?_cons_succ, List.set_cons_zero, List.set_cons_succ, cond_true, cond_false, Bool.not_true, Bool.not_false, Bool.false_eq_true, if_false]
        exact nx_ok ⟨_, by simp only [List.filter_append, List.filter_cons, ha, List.filter_nil, List.append_nil, Bool.false_eq_true, if_false]; rfl⟩
      · simp only [seq_ap, set_ap, setK_ap, ret_ap, retK_ap, if_ap, ifK_ap, nil_ap, exp_ap, expK_ap, par_ap, parA_ap, parB_ap, asg_ap, asgK_ap, asgQ_ap, aug_ap, augQ_ap, augK_ap, augL_ap, raise_ap, newL_ap, newK_ap, app_ap, appQ_ap, appK_ap, appL_ap, frz_ap, frzQ_ap, tv_ap, an_ap, anK_ap, or_ap, orK_ap, no_ap, noK_ap, ty_ap, e1_ap, e1K_ap, e2_ap, e2K_ap, e2L_ap, v_ap, vQ_ap, c_ap, call_ap, callK_ap, eB_ap, eBK_ap, aC_ap, aCA_ap, aCB_ap, aN_ap, tup_ap, tupK_ap, lst_ap, lstK_ap, eIf_ap, eIfK_ap, eAn_ap, eAnK_ap, eOr_ap, eOrK_ap, okF_ap, eNo_ap, ch_ap, chA_ap, chB_ap, chC_ap, ixO_ap, ixQ_own, ixQ_bor, ixK_ap, ixL_own, ixL_bor, callO_ap, coQ_ap, coK_ap, coL_ap, tow_ok, iL_ap, iT_ap, iS_ap, iEnum_ap, enK_ap, iR_ap, sl_ap, slA_ap, slB_ap, slC_ap, gNo_ap, gSo_ap, gsK_ap, setAll, at_ok, at_exc, lf_some, chK_t, chK_f, to_ok, to_exc, blK_ap, bK_ap, nK_ap, flK_nx, flK_ret, lK_ap, uK_ap, f_nx, f_ret, f_exc, List.getElem?_cons_zero, List.getElem?_cons_succ, List.set_cons_zero, List.set_cons_succ, cond_true, cond_false, Bool.not_true, Bool.not_false, Bool.false_eq_true, if_false, if_pos l1]
        exact nx_ok ⟨_, by simp only [List.filter_append, List.filter_cons, ha, List.filter_nil, List.append_nil, if_true, List.map_append, List.map_cons, List.map_nil, List.append_assoc]; rfl⟩
    · rintro r' ⟨s3, rfl⟩
      exact nx_ok ⟨_, _, _, by simp only [List.flatMap_append, List.flatMap_cons, List.flatMap_nil, List.append_nil]; rfl⟩
  · rintro r' ⟨s1, s2, s3, rfl⟩
    simp only [seq_ap, set_ap, setK_ap, ret_ap, retK_ap, if_ap, ifK_ap, nil_ap, exp_ap, expK_ap, par_ap, parA_ap, parB_ap, asg_ap, asgK_ap, asgQ_ap, aug_ap, augQ_ap, augK_ap, augL_ap, raise_ap, newL_ap, newK_ap, app_ap, appQ_ap, appK_ap, appL_ap, frz_ap, frzQ_ap, tv_ap, an_ap, anK_ap, or_ap, orK_ap, no_ap, noK_ap, ty_ap, e1_ap, e1K_ap, e2_ap, e2K_ap, e2L_ap, v_ap, vQ_ap, c_ap, call_ap, callK_ap, eB_ap, eBK_ap, aC_ap, aCA_ap, aCB_ap, aN_ap, tup_ap, tupK_ap, lst_ap, lstK_ap, eIf_ap, eIfK_ap, eAn_ap, eAnK_ap, eOr_ap, eOrK_ap, okF_ap, eNo_ap, ch_ap, chA_ap, chB_ap, chC_ap, ixO_ap, ixQ_own, ixQ_bor, ixK_ap, ixL_own, ixL_bor, callO_ap, coQ_ap, coK_ap, coL_ap, tow_ok, iL_ap, iT_ap, iS_ap, iEnum_ap, enK_ap, iR_ap, sl_ap, slA_ap, slB_ap, slC_ap, gNo_ap, gSo_ap, gsK_ap, setAll, at_ok, at_exc, lf_some, chK_t, chK_f, to_ok, to_exc, blK_ap, bK_ap, nK_ap, flK_nx, flK_ret, lK_ap, uK_ap, f_nx, f_ret, f_exc, List.getElem?_cons_zero, List.getElem?_cons_succ, List.set_cons_zero, List.set_cons_succ, cond_true, cond_false, Bool.not_true, Bool.not_false, Bool.false_eq_true, if_false, nb_rows]
end
end FB
namespace FB
section
variable {R C : Nat} {f : F2}
theorem mul2 (k : Int) : opMul (.int 2) (.int k) = some (.int (2 * k)) := if_pos (by
  unfold mulOk
  rw [show Nat.ble (2 : Int).natAbs.log2 62 = true from rfl]
  simp)
theorem eq_int (a b : Int) : opEq (.int a) (.int b) = some (.bl (a == b)) := rfl
theorem ne_int (a b : Int) : opNe (.int a) (.int b) = some (.bl (!(a == b))) := rfl
theorem gt_int (a b : Int) : opGt (.int a) (.int b) = some (.bl (decide (b < a))) := rfl
theorem le_int (a b : Int) : opLe (.int a) (.int b) = some (.bl (decide (a ≤ b))) := rfl
theorem ge_int (a b : Int) : opGe (.int a) (.int b) = some (.bl (decide (b ≤ a))) := rfl
theorem add_int (a b : Int) : opAdd (.int a) (.int b) = some (.int (a + b)) := rfl
theorem sub_int (a b : Int) : opSub (.int a) (.int b) = some (.int (a - b)) := rfl
theorem len_lst (xs : List D) : bLen [.lst xs] = some (.int xs.length) := rfl
theorem len_tup (xs : List D) : bLen [.tup xs] = some (.int xs.length) := rfl
theorem next_ok (h : Sh R C) {i j : Nat} (hi : i < R) (hj : j < C) : D_next_sign [Bo R C f, .int i, .int j] = .ok (.str [tick R C f i j]) := by
  simp only [D_next_sign, B_next_sign, run1, run2, run3, run4, Nat.reduceSub, List.replicate_succ, List.replicate_zero, Nat.reduceAdd, seq_ap, set_ap, setK_ap, ret_ap, retK_ap, if_ap, ifK_ap, nil_ap, exp_ap, expK_ap, par_ap, parA_ap, parB_ap, asg_ap, asgK_ap, asgQ_ap, aug_ap, augQ_ap, augK_ap, augL_ap, raise_ap, newL_ap, newK_ap, app_ap, appQ_ap, appK_ap, appL_ap, frz_ap, frzQ_ap, tv_ap, an_ap, anK_ap, or_ap, orK_ap, no_ap, noK_ap, ty_ap, e1_ap, e1K_ap, e2_ap, e2K_ap, e2L_ap, v_ap, vQ_ap, c_ap, call_ap, callK_ap, eB_ap, eBK_ap, aC_ap, aCA_ap, aCB_ap, aN_ap, tup_ap, tupK_ap, lst_ap, lstK_ap, eIf_ap, eIfK_ap, eAn_ap, eAnK_ap, eOr_ap, eOrK_ap, okF_ap, eNo_ap, ch_ap, chA_ap, chB_ap, chC_ap, ixO_ap, ixQ_own, ixQ_bor, ixK_ap, ixL_own, ixL_bor, callO_ap, coQ_ap, coK_ap, coL_ap, tow_ok, iL_ap, iT_ap, iS_ap, iEnum_ap, enK_ap, iR_ap, sl_ap, slA_ap, slB_ap, slC_ap, gNo_ap, gSo_ap, gsK_ap, setAll, at_ok, at_exc, lf_some, chK_t, chK_f, to_ok, to_exc, blK_ap, bK_ap, nK_ap, flK_nx, flK_ret, lK_ap, uK_ap, f_nx, f_ret, f_exc, List.getElem?_cons_zero, List.getElem?_cons_succ, List.set_cons_zero, List.set_cons_succ, cond_true, cond_false, Bool.not_true, Bool.not_false, Bool.false_eq_true, if_false, ix_Bo hi, ix_row hj, in_la]
  have e : D.tup [.int i, .int j] = cD (i, j) := rfl
  cases hl : laS (f i j)
  · simp only [seq_ap, set_ap, setK_ap, ret_ap, retK_ap, if_ap, ifK_ap, nil_ap, exp_ap, expK_ap, par_ap, parA_ap, parB_ap, asg_ap, asgK_ap, asgQ_ap, aug_ap, augQ_ap, augK_ap, augL_ap, raise_ap, newL_ap, newK_ap, app_ap, appQ_ap, appK_ap, appL_ap, frz_ap, frzQ_ap, tv_ap, an_ap, anK_ap, or_ap, orK_ap, no_ap, noK_ap, ty_ap, e1_ap, e1K_ap, e2_ap, e2K_ap, e2L_ap, v_ap, vQ_ap, c_ap, call_ap, callK_ap, eB_ap, eBK_ap, aC_ap, aCA_ap, aCB_ap, aN_ap, tup_ap, tupK_ap, lst_ap, lstK_ap, eIf_ap, eIfK_ap, eAn_ap, eAnK_ap, eOr_ap, eOrK_ap, okF_ap, eNo_ap, ch_ap, chA_ap, chB_ap, chC_ap, ixO_ap, ixQ_own, ixQ_bor, ixK_ap, ixL_own, ixL_bor, callO_ap, coQ_ap, coK_ap, coL_ap, tow_ok, iL_ap, iT_ap, iS_ap, iEnum_ap, enK_ap, iR_ap, sl_ap, slA_ap, slB_ap, slC_ap, gNo_ap, gSo_ap, gsK_ap, setAll, at_ok, at_exc, lf_some, chK_t, chK_f, to_ok, to_exc, blK_ap, bK_ap, nK_ap, flK_nx, flK_ret, lK_ap, uK_ap, f_nx, f_ret, f_exc, List.getElem?_cons_zero, List.getElem?_cons_succ, List.set_cons_zero, List.set_cons_succ, cond_true, cond_false, Bool.not_true, Bool.not_false, Bool.false_eq_true, if_false, e]
    have nl : (nb R C (i, j)).length ≤ lim := by
      have := nb_len h (i, j)
      show _ ≤ 100000
      omega
    rw [lc_A (nb R C (i, j)) cD (fun q => .bl (ic f q))]
    · simp only [seq_ap, set_ap, setK_ap, ret_ap, retK_ap, if_ap, ifK_ap, nil_ap, exp_ap, expK_ap, par_ap, parA_ap, parB_ap, asg_ap, asgK_ap, asgQ_ap, aug_ap, augQ_ap, augK_ap, augL_ap, raise_ap, newL_ap, newK_ap, app_ap, appQ_ap, appK_ap, appL_ap, frz_ap, frzQ_ap, tv_ap, an_ap, anK_ap, or_ap, orK_ap, no_ap, noK_ap, ty_ap, e1_ap, e1K_ap, e2_ap, e2K_ap, e2L_ap, v_ap, vQ_ap, c_ap, call_ap, callK_ap, eB_ap, eBK_ap, aC_ap, aCA_ap, aCB_ap, aN_ap, tup_ap, tupK_ap, lst_ap, lstK_ap, eIf_ap, eIfK_ap, eAn_ap, eAnK_ap, eOr_ap, eOrK_ap, okF_ap, eNo_ap, ch_ap, chA_ap, chB_ap, chC_ap, ixO_ap, ixQ_own, ixQ_bor, ixK_ap, ixL_own, ixL_bor, callO_ap, coQ_ap, coK_ap, coL_ap, tow_ok, iL_ap, iT_ap, iS_ap, iEnum_ap, enK_ap, iR_ap, sl_ap, slA_ap, slB_ap, slC_ap, gNo_ap, gSo_ap, gsK_ap, setAll, at_ok, at_exc, lf_some, chK_t, chK_f, to_ok, to_exc, blK_ap, bK_ap, nK_ap, flK_nx, flK_ret, lK_ap, uK_ap, f_nx, f_ret, f_exc, List.getElem?_cons_zero, List.getElem?_cons_succ, List.set_cons_zero, List.set_cons_succ, cond_true, cond_false, Bool.not_true, Bool.not_false, Bool.false_eq_true, if_false]
      rw [lc_N (nb R C (i, j)) (fun q => .bl (ic f q)) (ic f) (fun q => .bl (ic f q))]
      · simp only [seq_ap, set_ap, setK_ap, ret_ap, retK_ap, if_ap, ifK_ap, nil_ap, exp_ap, expK_ap, par_ap, parA_ap, parB_ap, asg_ap, asgK_ap, asgQ_ap, aug_ap, augQ_ap, augK_ap, augL_ap, raise_ap, newL_ap, newK_ap, app_ap, appQ_ap, appK_ap, appL_ap, frz_ap, frzQ_ap, tv_ap, an_ap, anK_ap, or_ap, orK_ap, no_ap, noK_ap, ty_ap, e1_ap, e1K_ap, e2_ap, e2K_ap, e2L_ap, v_ap, vQ_ap, c_ap, call_ap, callK_ap, eB_ap, eBK_ap, aC_ap, aCA_ap, aCB_ap, aN_ap, tup_ap, tupK_ap, lst_ap, lstK_ap, eIf_ap, eIfK_ap, eAn_ap, eAnK_ap, eOr_ap, eOrK_ap, okF_ap, eNo_ap, ch_ap, chA_ap, chB_ap, chC_ap, ixO_ap, ixQ_own, ixQ_bor, ixK_ap, ixL_own, ixL_bor, callO_ap, coQ_ap, coK_ap, coL_ap, tow_ok, iL_ap, iT_ap, iS_ap, iEnum_ap, enK_ap, iR_ap, sl_ap, slA_ap, slB_ap, slC_ap, gNo_ap, gSo_ap, gsK_ap, setAll, at_ok, at_exc, lf_some, chK_t, chK_f, to_ok, to_exc, blK_ap, bK_ap, nK_ap, flK_nx, flK_ret, lK_ap, uK_ap, f_nx, f_ret, f_exc, List.getElem?_cons_zero, List.getElem?_cons_succ, List.set_cons_zero, List.set_cons_succ, cond_true, cond_false, Bool.not_true, Bool.not_false, Bool.false_eq_true, if_false, len_lst, mul2, eq_int, gt_int, List.length_map]
        have k1 : ((List.filter (ic f) (nb R C (i, j))).length : Int) = (nI R C f (i, j) : Nat) := by
          unfold nI
          rw [List.countP_eq_length_filter]
        have k2 : ((nb R C (i, j)).length : Int) = (nN R C (i, j) : Nat) := rfl
        rw [k1, k2]
        by_cases a1 : 2 * nI R C f (i, j) = nN R C (i, j)
        · have a2 : ((2 : Int) * (nI R C f (i, j) : Nat) == (nN R C (i, j) : Nat)) = true := by
            rw [beq_iff_eq]
            omega
          simp only [a2, seq_ap, set_ap, setK_ap, ret_ap, retK_ap, if_ap, ifK_ap, nil_ap, exp_ap, expK_ap, par_ap, parA_ap, parB_ap, asg_ap, asgK_ap, asgQ_ap, aug_ap, augQ_ap, augK_ap, augL_ap, raise_ap, newL_ap, newK_ap, app_ap, appQ_ap, appK_ap, appL_ap, frz_ap, frzQ_ap, tv_ap, an_ap, anK_ap, or_ap, orK_ap, no_ap, noK_ap, ty_ap, e1_ap, e1K_ap, e2_ap, e2K_ap, e2L_ap, v_ap, vQ_ap, c_ap, call_ap, callK_ap, eB_ap, eBK_ap, aC_ap, aCA_ap, aCB_ap, aN_ap, tup_ap, tupK_ap, lst_ap, lstK_ap, eIf_ap, eIfK_ap, eAn_ap, eAnK_ap, eOr_ap, eOrK_ap, okF_ap, eNo_ap, ch_ap, chA_ap, chB_ap, chC_ap, ixO_ap, ixQ_own, ixQ_bor, ixK_ap, ixL_own, ixL_bor, callO_ap, coQ_ap, coK_ap, coL_ap, tow_ok, iL_ap, iT_ap, iS_ap, iEnum_ap, enK_ap, iR_ap, sl_ap, slA_ap, slB_ap, slC_ap, gNo_ap, gSo_ap, gsK_ap, setAll, at_ok, at_exc, lf_some, chK_t, chK_f, to_ok, to_exc, blK_ap, bK_ap, nK_ap, flK_nx, flK_ret, lK_ap, uK_ap, f_nx, f_ret, f_exc, List.getElem?_cons_zero, List.getElem?_cons_succ, List.set_cons_zero, List.set_cons_succ, cond_true, cond_false, Bool.not_true, Bool.not_false, Bool.false_eq_true, if_false, tick, hl, if_pos a1]
        · have a2 : ((2 : Int) * (nI R C f (i, j) : Nat) == (nN R C (i, j) : Nat)) = false := by
            rw [beq_eq_false_iff_ne]
            omega
          by_cases b1 : 2 * nI R C f (i, j) > nN R C (i, j)
          · have b2 : decide (((nN R C (i, j) : Nat) : Int) < 2 * (nI R C f (i, j) : Nat)) = true := by
              rw [decide_eq_true_eq]
              omega
            simp only [a2, b2, seq_ap, set_ap, setK_ap, ret_ap, retK_ap, if_ap, ifK_ap, nil_ap, exp_ap, expK_ap, par_ap, parA_ap, parB_ap, asg_ap, asgK_ap, asgQ_ap, aug_ap, augQ_ap, augK_ap, augL_ap, raise_ap, newL_ap, newK_ap, app_ap, appQ_ap, appK_ap, appL_ap, frz_ap, frzQ_ap, tv_ap, an_ap, anK_ap, or_ap, orK_ap, no_ap, noK_ap, ty_ap, e1_ap, e1K_ap, e2_ap, e2K_ap, e2L_ap, v_ap, vQ_ap, c_ap, call_ap, callK_ap, eB_ap, eBK_ap, aC_ap, aCA_ap, aCB_ap, aN_ap, tup_ap, tupK_ap, lst_ap, lstK_ap, eIf_ap, eIfK_ap, eAn_ap, eAnK_ap, eOr_ap, eOrK_ap, okF_ap, eNo_ap, ch_ap, chA_ap, chB_ap, chC_ap, ixO_ap, ixQ_own, ixQ_bor, ixK_ap, ixL_own, ixL_bor, callO_ap, coQ_ap, coK_ap, coL_ap, tow_ok, iL_ap, iT_ap, iS_ap, iEnum_ap, enK_ap, iR_ap, sl_ap, slA_ap, slB_ap, slC_ap, gNo_ap, gSo_ap, gsK_ap, setAll, at_ok, at_exc, lf_some, chK_t, chK_f, to_ok, to_exc, blK_ap, bK_ap, nK_ap, flK_nx, flK_ret, lK_ap, uK_ap, f_nx, f_ret, f_exc, List.getElem?_cons_zero, List.getElem?_cons_succ, List.set_cons_zero, List.set_cons_succ, cond_true, cond_false, Bool.not_true, Bool.not_false, Bool.false_eq_true, if_false, tick, hl, if_neg a1, if_pos b1, if_pos (And.intro hi hj)]
          · have b2 : decide (((nN R C (i, j) : Nat) : Int) < 2 * (nI R C f (i, j) : Nat)) = false := by
              rw [decide_eq_false_iff_not]
              omega
            simp only [a2, b2, seq_ap, set_ap, setK_ap, ret_ap, retK_ap, if_ap, ifK_ap, nil_ap, exp_ap, expK_ap, par_ap, parA_ap, parB_ap, asg_ap, asgK_ap, asgQ_ap, aug_ap, augQ_ap, augK_ap, augL_ap, raise_ap, newL_ap, newK_ap, app_ap, appQ_ap, appK_ap, appL_ap, frz_ap, frzQ_ap, tv_ap, an_ap, anK_ap, or_ap, orK_ap, no_ap, noK_ap, ty_ap, e1_ap, e1K_ap, e2_ap, e2K_ap, e2L_ap, v_ap, vQ_ap, c_ap, call_ap, callK_ap, eB_ap, eBK_ap, aC_ap, aCA_ap, aCB_ap, aN_ap, tup_ap, tupK_ap, lst_ap, lstK_ap, eIf_ap, eIfK_ap, eAn_ap, eAnK_ap, eOr_ap, eOrK_ap, okF_ap, eNo_ap, ch_ap, chA_ap, chB_ap, chC_ap, ixO_ap, ixQ_own, ixQ_bor, ixK_ap, ixL_own, ixL_bor, callO_ap, coQ_ap, coK_ap, coL_ap, tow_ok, iL_ap, iT_ap, iS_ap, iEnum_ap, enK_ap, iR_ap, sl_ap, slA_ap, slB_ap, slC_ap, gNo_ap, gSo_ap, gsK_ap, setAll, at_ok, at_exc, lf_some, chK_t, chK_f, to_ok, to_exc, blK_ap, bK_ap, nK_ap, flK_nx, flK_ret, lK_ap, uK_ap, f_nx, f_ret, f_exc, List.getElem?_cons_zero, List.getElem?_cons_succ, List.set_cons_zero, List.set_cons_succ, cond_true, cond_false, Bool.not_true, Bool.not_false, Bool.false_eq_true, if_false, tick, hl, if_neg a1, if_neg b1]
      · simp only [seq_ap, set_ap, setK_ap, ret_ap, retK_ap, if_ap, ifK_ap, nil_ap, exp_ap, expK_ap, par_ap, parA_ap, parB_ap, asg_ap, asgK_ap, asgQ_ap, aug_ap, augQ_ap, augK_ap, augL_ap, raise_ap, newL_ap, newK_ap, app_ap, appQ_ap, appK_ap, appL_ap, frz_ap, frzQ_ap, tv_ap, an_ap, anK_ap, or_ap, orK_ap, no_ap, noK_ap, ty_ap, e1_ap, e1K_ap, e2_ap, e2K_ap, e2L_ap, v_ap, vQ_ap, c_ap, call_ap, callK_ap, eB_ap, eBK_ap, aC_ap, aCA_ap, aCB_ap, aN_ap, tup_ap, tupK_ap, lst_ap, lstK_ap, eIf_ap, eIfK_ap, eAn_ap, eAnK_ap, eOr_ap, eOrK_ap, okF_ap, eNo_ap, ch_ap, chA_ap, chB_ap, chC_ap, ixO_ap, ixQ_own, ixQ_bor, ixK_ap, ixL_own, ixL_bor, callO_ap, coQ_ap, coK_ap, coL_ap, tow_ok, iL_ap, iT_ap, iS_ap, iEnum_ap, enK_ap, iR_ap, sl_ap, slA_ap, slB_ap, slC_ap, gNo_ap, gSo_ap, gsK_ap, setAll, at_ok, at_exc, lf_some, chK_t, chK_f, to_ok, to_exc, blK_ap, bK_ap, nK_ap, flK_nx, flK_ret, lK_ap, uK_ap, f_nx, f_ret, f_exc, List.getElem?_cons_zero, List.getElem?_cons_succ, List.set_cons_zero, List.set_cons_succ, cond_true, cond_false, Bool.not_true, Bool.not_false, Bool.false_eq_true, if_false]
      · exact ⟨rfl, ltL rfl, nl⟩
      · intro q hq
        simp only [seq_ap, set_ap, setK_ap, ret_ap, retK_ap, if_ap, ifK_ap, nil_ap, exp_ap, expK_ap, par_ap, parA_ap, parB_ap, asg_ap, asgK_ap, asgQ_ap, aug_ap, augQ_ap, augK_ap, augL_ap, raise_ap, newL_ap, newK_ap, app_ap, appQ_ap, appK_ap, appL_ap, frz_ap, frzQ_ap, tv_ap, an_ap, anK_ap, or_ap, orK_ap, no_ap, noK_ap, ty_ap, e1_ap, e1K_ap, e2_ap, e2K_ap, e2L_ap, v_ap, vQ_ap, c_ap, call_ap, callK_ap, eB_ap, eBK_ap, aC_ap, aCA_ap, aCB_ap, aN_ap, tup_ap, tupK_ap, lst_ap, lstK_ap, eIf_ap, eIfK_ap, eAn_ap, eAnK_ap, eOr_ap, eOrK_ap, okF_ap, eNo_ap, ch_ap, chA_ap, chB_ap, chC_ap, ixO_ap, ixQ_own, ixQ_bor, ixK_ap, ixL_own, ixL_bor, callO_ap, coQ_ap, coK_ap, coL_ap, tow_ok, iL_ap, iT_ap, iS_ap, iEnum_ap, enK_ap, iR_ap, sl_ap, slA_ap, slB_ap, slC_ap, gNo_ap, gSo_ap, gsK_ap, setAll, at_ok, at_exc, lf_some, chK_t, chK_f, to_ok, to_exc, blK_ap, bK_ap, nK_ap, flK_nx, flK_ret, lK_ap, uK_ap, f_nx, f_ret, f_exc, List.getElem?_cons_zero, List.getElem?_cons_succ, List.set_cons_zero, List.set_cons_succ, cond_true, cond_false, Bool.not_true, Bool.not_false, Bool.false_eq_true, if_false]
        exact ⟨trivial, fun _ => trivial⟩
    · simp only [seq_ap, set_ap, setK_ap, ret_ap, retK_ap, if_ap, ifK_ap, nil_ap, exp_ap, expK_ap, par_ap, parA_ap, parB_ap, asg_ap, asgK_ap, asgQ_ap, aug_ap, augQ_ap, augK_ap, augL_ap, raise_ap, newL_ap, newK_ap, app_ap, appQ_ap, appK_ap, appL_ap, frz_ap, frzQ_ap, tv_ap, an_ap, anK_ap, or_ap, orK_ap, no_ap, noK_ap, ty_ap, e1_ap, e1K_ap, e2_ap, e2K_ap, e2L_ap, v_ap, vQ_ap, c_ap, call_ap, callK_ap, eB_ap, eBK_ap, aC_ap, aCA_ap, aCB_ap, aN_ap, tup_ap, tupK_ap, lst_ap, lstK_ap, eIf_ap, eIfK_ap, eAn_ap, eAnK_ap, eOr_ap, eOrK_ap, okF_ap, eNo_ap, ch_ap, chA_ap, chB_ap, chC_ap, ixO_ap, ixQ_own, ixQ_bor, ixK_ap, ixL_own, ixL_bor, callO_ap, coQ_ap, coK_ap, coL_ap, tow_ok, iL_ap, iT_ap, iS_ap, iEnum_ap, enK_ap, iR_ap, sl_ap, slA_ap, slB_ap, slC_ap, gNo_ap, gSo_ap, gsK_ap, setAll, at_ok, at_exc, lf_some, chK_t, chK_f, to_ok, to_exc, blK_ap, bK_ap, nK_ap, flK_nx, flK_ret, lK_ap, uK_ap, f_nx, f_ret, f_exc, List.getElem?_cons_zero, List.getElem?_cons_succ, List.set_cons_zero, List.set_cons_succ, cond_true, cond_false, Bool.not_true, Bool.not_false, Bool.false_eq_true, if_false, e, nbrs_ok h (p := (i, j)) ⟨hi, hj⟩]
    · exact ⟨rfl, ltL rfl, nl⟩
    · intro q hq
      simp only [seq_ap, set_ap, setK_ap, ret_ap, retK_ap, if_ap, ifK_ap, nil_ap, exp_ap, expK_ap, par_ap, parA_ap, parB_ap, asg_ap, asgK_ap, asgQ_ap, aug_ap, augQ_ap, augK_ap, augL_ap, raise_ap, newL_ap, newK_ap, app_ap, appQ_ap, appK_ap, appL_ap, frz_ap, frzQ_ap, tv_ap, an_ap, anK_ap, or_ap, orK_ap, no_ap, noK_ap, ty_ap, e1_ap, e1K_ap, e2_ap, e2K_ap, e2L_ap, v_ap, vQ_ap, c_ap, call_ap, callK_ap, eB_ap, eBK_ap, aC_ap, aCA_ap, aCB_ap, aN_ap, tup_ap, tupK_ap, lst_ap, lstK_ap, eIf_ap, eIfK_ap, eAn_ap, eAnK_ap, eOr_ap, eOrK_ap, okF_ap, eNo_ap, ch_ap, chA_ap, chB_ap, chC_ap, ixO_ap, ixQ_own, ixQ_bor, ixK_ap, ixL_own, ixL_bor, callO_ap, coQ_ap, coK_ap, coL_ap, tow_ok, iL_ap, iT_ap, iS_ap, iEnum_ap, enK_ap, iR_ap, sl_ap, slA_ap, slB_ap, slC_ap, gNo_ap, gSo_ap, gsK_ap, setAll, at_ok, at_exc, lf_some, chK_t, chK_f, to_ok, to_exc, blK_ap, bK_ap, nK_ap, flK_nx, flK_ret, lK_ap, uK_ap, f_nx, f_ret, f_exc, List.getElem?_cons_zero, List.getElem?_cons_succ, List.set_cons_zero, List.set_cons_succ, cond_true, cond_false, Bool.not_true, Bool.not_false, Bool.false_eq_true, if_false, ice_ok (nb_mem hq)]
  · simp only [seq_ap, set_ap, setK_ap, ret_ap, retK_ap, if_ap, ifK_ap, nil_ap, exp_ap, expK_ap, par_ap, parA_ap, parB_ap, asg_ap, asgK_ap, asgQ_ap, aug_ap, augQ_ap, augK_ap, augL_ap, raise_ap, newL_ap, newK_ap, app_ap, appQ_ap, appK_ap, appL_ap, frz_ap, frzQ_ap, tv_ap, an_ap, anK_ap, or_ap, orK_ap, no_ap, noK_ap, ty_ap, e1_ap, e1K_ap, e2_ap, e2K_ap, e2L_ap, v_ap, vQ_ap, c_ap, call_ap, callK_ap, eB_ap, eBK_ap, aC_ap, aCA_ap, aCB_ap, aN_ap, tup_ap, tupK_ap, lst_ap, lstK_ap, eIf_ap, eIfK_ap, eAn_ap, eAnK_ap, eOr_ap, eOrK_ap, okF_ap, eNo_ap, ch_ap, chA_ap, chB_ap, chC_ap, ixO_ap, ixQ_own, ixQ_bor, ixK_ap, ixL_own, ixL_bor, callO_ap, coQ_ap, coK_ap, coL_ap, tow_ok, iL_ap, iT_ap, iS_ap, iEnum_ap, enK_ap, iR_ap, sl_ap, slA_ap, slB_ap, slC_ap, gNo_ap, gSo_ap, gsK_ap, setAll, at_ok, at_exc, lf_some, chK_t, chK_f, to_ok, to_exc, blK_ap, bK_ap, nK_ap, flK_nx, flK_ret, lK_ap, uK_ap, f_nx, f_ret, f_exc, List.getElem?_cons_zero, List.getElem?_cons_succ, List.set_cons_zero, List.set_cons_succ, cond_true, cond_false, Bool.not_true, Bool.not_false, Bool.false_eq_true, if_false, tick, hl, if_true]
theorem ticked_ok (h : Sh R C) : D_ticked [Bo R C f] = .ok (Bo R C (tick R C f)) := by
  have hR : 0 < R := h.r1
  have hR4 := h.r4
  have hC4 := h.c4
  simp only [D_ticked, B_ticked, run1, run2, run3, run4, Nat.reduceSub, List.replicate_succ, List.replicate_zero, Nat.reduceAdd, seq_ap, set_ap, setK_ap, ret_ap, retK_ap, if_ap, ifK_ap, nil_ap, exp_ap, expK_ap, par_ap, parA_ap, parB_ap, asg_ap, asgK_ap, asgQ_ap, aug_ap, augQ_ap, augK_ap, augL_ap, raise_ap, newL_ap, newK_ap, app_ap, appQ_ap, appK_ap, appL_ap, frz_ap, frzQ_ap, tv_ap, an_ap, anK_ap, or_ap, orK_ap, no_ap, noK_ap, ty_ap, e1_ap, e1K_ap, e2_ap, e2K_ap, e2L_ap, v_ap, vQ_ap, c_ap, call_ap, callK_ap, eB_ap, eBK_ap, aC_ap, aCA_ap, aCB_ap, aN_ap, tup_ap, tupK_ap, lst_ap, lstK_ap, eIf_ap, eIfK_ap, eAn_ap, eAnK_ap, eOr_ap, eOrK_ap, okF_ap, eNo_ap, ch_ap, chA_ap, chB_ap, chC_ap, ixO_ap, ixQ_own, ixQ_bor, ixK_ap, ixL_own, ixL_bor, callO_ap, coQ_ap, coK_ap, coL_ap, tow_ok, iL_ap, iT_ap, iS_ap, iEnum_ap, enK_ap, iR_ap, sl_ap, slA_ap, slB_ap, slC_ap, gNo_ap, gSo_ap, gsK_ap, setAll, at_ok, at_exc, lf_some, chK_t, chK_f, to_ok, to_exc, blK_ap, bK_ap, nK_ap, flK_nx, flK_ret, lK_ap, uK_ap, f_nx, f_ret, f_exc, List.getElem?_cons_zero, List.getElem?_cons_succ, List.set_cons_zero, List.set_cons_succ, cond_true, cond_false, Bool.not_true, Bool.not_false, Bool.false_eq_true, if_false, ix_Bo0 hR, len_row]
  rw [lc_A (List.range R) (fun i => .int (i : Nat)) (fun i => .str (row C (tick R C f i)))]
  · simp only [seq_ap, set_ap, setK_ap, ret_ap, retK_ap, if_ap, ifK_ap, nil_ap, exp_ap, expK_ap, par_ap, parA_ap, parB_ap, asg_ap, asgK_ap, asgQ_ap, aug_ap, augQ_ap, augK_ap, augL_ap, raise_ap, newL_ap, newK_ap, app_ap, appQ_ap, appK_ap, appL_ap, frz_ap, frzQ_ap, tv_ap, an_ap, anK_ap, or_ap, orK_ap, no_ap, noK_ap, ty_ap, e1_ap, e1K_ap, e2_ap, e2K_ap, e2L_ap, v_ap, vQ_ap, c_ap, call_ap, callK_ap, eB_ap, eBK_ap, aC_ap, aCA_ap, aCB_ap, aN_ap, tup_ap, tupK_ap, lst_ap, lstK_ap, eIf_ap, eIfK_ap, eAn_ap, eAnK_ap, eOr_ap, eOrK_ap, okF_ap, eNo_ap, ch_ap, chA_ap, chB_ap, chC_ap, ixO_ap, ixQ_own, ixQ_bor, ixK_ap, ixL_own, ixL_bor, callO_ap, coQ_ap, coK_ap, coL_ap, tow_ok, iL_ap, iT_ap, iS_ap, iEnum_ap, enK_ap, iR_ap, sl_ap, slA_ap, slB_ap, slC_ap, gNo_ap, gSo_ap, gsK_ap, setAll, at_ok, at_exc, lf_some, chK_t, chK_f, to_ok, to_exc, blK_ap, bK_ap, nK_ap, flK_nx, flK_ret, lK_ap, uK_ap, f_nx, f_ret, f_exc, List.getElem?_cons_zero, List.getElem?_cons_succ, List.set_cons_zero, List.set_cons_succ, cond_true, cond_false, Bool.not_true, Bool.not_false, Bool.false_eq_true, if_false, tuple_rows]
  · simp only [seq_ap, set_ap, setK_ap, ret_ap, retK_ap, if_ap, ifK_ap, nil_ap, exp_ap, expK_ap, par_ap, parA_ap, parB_ap, asg_ap, asgK_ap, asgQ_ap, aug_ap, augQ_ap, augK_ap, augL_ap, raise_ap, newL_ap, newK_ap, app_ap, appQ_ap, appK_ap, appL_ap, frz_ap, frzQ_ap, tv_ap, an_ap, anK_ap, or_ap, orK_ap, no_ap, noK_ap, ty_ap, e1_ap, e1K_ap, e2_ap, e2K_ap, e2L_ap, v_ap, vQ_ap, c_ap, call_ap, callK_ap, eB_ap, eBK_ap, aC_ap, aCA_ap, aCB_ap, aN_ap, tup_ap, tupK_ap, lst_ap, lstK_ap, eIf_ap, eIfK_ap, eAn_ap, eAnK_ap, eOr_ap, eOrK_ap, okF_ap, eNo_ap, ch_ap, chA_ap, chB_ap, chC_ap, ixO_ap, ixQ_own, ixQ_bor, ixK_ap, ixL_own, ixL_bor, callO_ap, coQ_ap, coK_ap, coL_ap, tow_ok, iL_ap, iT_ap, iS_ap, iEnum_ap, enK_ap, iR_ap, sl_ap, slA_ap, slB_ap, slC_ap, gNo_ap, gSo_ap, gsK_ap, setAll, at_ok, at_exc, lf_some, chK_t, chK_f, to_ok, to_exc, blK_ap, bK_ap, nK_ap, flK_nx, flK_ret, lK_ap, uK_ap, f_nx, f_ret, f_exc, List.getElem?_cons_zero, List.getElem?_cons_succ, List.set_cons_zero, List.set_cons_succ, cond_true, cond_false, Bool.not_true, Bool.not_false, Bool.false_eq_true, if_false, len_Bo, rgK_nat (show R ≤ 100000 by omega)]
  · exact ⟨rfl, ltL rfl, by simp [lim]; omega⟩
  · intro i hi
    have hi := List.mem_range.mp hi
    simp only [seq_ap, set_ap, setK_ap, ret_ap, retK_ap, if_ap, ifK_ap, nil_ap, exp_ap, expK_ap, par_ap, parA_ap, parB_ap, asg_ap, asgK_ap, asgQ_ap, aug_ap, augQ_ap, augK_ap, augL_ap, raise_ap, newL_ap, newK_ap, app_ap, appQ_ap, appK_ap, appL_ap, frz_ap, frzQ_ap, tv_ap, an_ap, anK_ap, or_ap, orK_ap, no_ap, noK_ap, ty_ap, e1_ap, e1K_ap, e2_ap, e2K_ap, e2L_ap, v_ap, vQ_ap, c_ap, call_ap, callK_ap, eB_ap, eBK_ap, aC_ap, aCA_ap, aCB_ap, aN_ap, tup_ap, tupK_ap, lst_ap, lstK_ap, eIf_ap, eIfK_ap, eAn_ap, eAnK_ap, eOr_ap, eOrK_ap, okF_ap, eNo_ap, ch_ap, chA_ap, chB_ap, chC_ap, ixO_ap, ixQ_own, ixQ_bor, ixK_ap, ixL_own, ixL_bor, callO_ap, coQ_ap, coK_ap, coL_ap, tow_ok, iL_ap, iT_ap, iS_ap, iEnum_ap, enK_ap, iR_ap, sl_ap, slA_ap, slB_ap, slC_ap, gNo_ap, gSo_ap, gsK_ap, setAll, at_ok, at_exc, lf_some, chK_t, chK_f, to_ok, to_exc, blK_ap, bK_ap, nK_ap, flK_nx, flK_ret, lK_ap, uK_ap, f_nx, f_ret, f_exc, List.getElem?_cons_zero, List.getElem?_cons_succ, List.set_cons_zero, List.set_cons_succ, cond_true, cond_false, Bool.not_true, Bool.not_false, Bool.false_eq_true, if_false]
    rw [lc_A (List.range C) (fun j => .int (j : Nat)) (fun j => .str [tick R C f i j])]
    · simp only [seq_ap, set_ap, setK_ap, ret_ap, retK_ap, if_ap, ifK_ap, nil_ap, exp_ap, expK_ap, par_ap, parA_ap, parB_ap, asg_ap, asgK_ap, asgQ_ap, aug_ap, augQ_ap, augK_ap, augL_ap, raise_ap, newL_ap, newK_ap, app_ap, appQ_ap, appK_ap, appL_ap, frz_ap, frzQ_ap, tv_ap, an_ap, anK_ap, or_ap, orK_ap, no_ap, noK_ap, ty_ap, e1_ap, e1K_ap, e2_ap, e2K_ap, e2L_ap, v_ap, vQ_ap, c_ap, call_ap, callK_ap, eB_ap, eBK_ap, aC_ap, aCA_ap, aCB_ap, aN_ap, tup_ap, tupK_ap, lst_ap, lstK_ap, eIf_ap, eIfK_ap, eAn_ap, eAnK_ap, eOr_ap, eOrK_ap, okF_ap, eNo_ap, ch_ap, chA_ap, chB_ap, chC_ap, ixO_ap, ixQ_own, ixQ_bor, ixK_ap, ixL_own, ixL_bor, callO_ap, coQ_ap, coK_ap, coL_ap, tow_ok, iL_ap, iT_ap, iS_ap, iEnum_ap, enK_ap, iR_ap, sl_ap, slA_ap, slB_ap, slC_ap, gNo_ap, gSo_ap, gsK_ap, setAll, at_ok, at_exc, lf_some, chK_t, chK_f, to_ok, to_exc, blK_ap, bK_ap, nK_ap, flK_nx, flK_ret, lK_ap, uK_ap, f_nx, f_ret, f_exc, List.getElem?_cons_zero, List.getElem?_cons_succ, List.set_cons_zero, List.set_cons_succ, cond_true, cond_false, Bool.not_true, Bool.not_false, Bool.false_eq_true, if_false, join_row (g := tick R C f i) C (by omega)]
    · simp only [seq_ap, set_ap, setK_ap, ret_ap, retK_ap, if_ap, ifK_ap, nil_ap, exp_ap, expK_ap, par_ap, parA_ap, parB_ap, asg_ap, asgK_ap, asgQ_ap, aug_ap, augQ_ap, augK_ap, augL_ap, raise_ap, newL_ap, newK_ap, app_ap, appQ_ap, appK_ap, appL_ap, frz_ap, frzQ_ap, tv_ap, an_ap, anK_ap, or_ap, orK_ap, no_ap, noK_ap, ty_ap, e1_ap, e1K_ap, e2_ap, e2K_ap, e2L_ap, v_ap, vQ_ap, c_ap, call_ap, callK_ap, eB_ap, eBK_ap, aC_ap, aCA_ap, aCB_ap, aN_ap, tup_ap, tupK_ap, lst_ap, lstK_ap, eIf_ap, eIfK_ap, eAn_ap, eAnK_ap, eOr_ap, eOrK_ap, okF_ap, eNo_ap, ch_ap, chA_ap, chB_ap, chC_ap, ixO_ap, ixQ_own, ixQ_bor, ixK_ap, ixL_own, ixL_bor, callO_ap, coQ_ap, coK_ap, coL_ap, tow_ok, iL_ap, iT_ap, iS_ap, iEnum_ap, enK_ap, iR_ap, sl_ap, slA_ap, slB_ap, slC_ap, gNo_ap, gSo_ap, gsK_ap, setAll, at_ok, at_exc, lf_some, chK_t, chK_f, to_ok, to_exc, blK_ap, bK_ap, nK_ap, flK_nx, flK_ret, lK_ap, uK_ap, f_nx, f_ret, f_exc, List.getElem?_cons_zero, List.getElem?_cons_succ, List.set_cons_zero, List.set_cons_succ, cond_true, cond_false, Bool.not_true, Bool.not_false, Bool.false_eq_true, if_false, rgK_nat (show C ≤ 100000 by omega)]
    · exact ⟨rfl, ltL rfl, by simp [lim]; omega⟩
    · intro j hj
      have hj := List.mem_range.mp hj
      simp only [seq_ap, set_ap, setK_ap, ret_ap, retK_ap, if_ap, ifK_ap, nil_ap, exp_ap, expK_ap, par_ap, parA_ap, parB_ap, asg_ap, asgK_ap, asgQ_ap, aug_ap, augQ_ap, augK_ap, augL_ap, raise_ap, newL_ap, newK_ap, app_ap, appQ_ap, appK_ap, appL_ap, frz_ap, frzQ_ap, tv_ap, an_ap, anK_ap, or_ap, orK_ap, no_ap, noK_ap, ty_ap, e1_ap, e1K_ap, e2_ap, e2K_ap, e2L_ap, v_ap, vQ_ap, c_ap, call_ap, callK_ap, eB_ap, eBK_ap, aC_ap, aCA_ap, aCB_ap, aN_ap, tup_ap, tupK_ap, lst_ap, lstK_ap, eIf_ap, eIfK_ap, eAn_ap, eAnK_ap, eOr_ap, eOrK_ap, okF_ap, eNo_ap, ch_ap, chA_ap, chB_ap, chC_ap, ixO_ap, ixQ_own, ixQ_bor, ixK_ap, ixL_own, ixL_bor, callO_ap, coQ_ap, coK_ap, coL_ap, tow_ok, iL_ap, iT_ap, iS_ap, iEnum_ap, enK_ap, iR_ap, sl_ap, slA_ap, slB_ap, slC_ap, gNo_ap, gSo_ap, gsK_ap, setAll, at_ok, at_exc, lf_some, chK_t, chK_f, to_ok, to_exc, blK_ap, bK_ap, nK_ap, flK_nx, flK_ret, lK_ap, uK_ap, f_nx, f_ret, f_exc, List.getElem?_cons_zero, List.getElem?_cons_succ, List.set_cons_zero, List.set_cons_succ, cond_true, cond_false, Bool.not_true, Bool.not_false, Bool.false_eq_true, if_false, next_ok h hi hj]
end
end FB
namespace FB
/-! ### equality of plain data -/
mutual
def D.pu : D → Bool
  | .non => true
  | .int _ => true
  | .str _ => true
  | .bl _ => false
  | .lst xs => D.puL xs
  | .tup xs => D.puL xs
  | .fz _ => false
  | .opq _ => false
  | .dic _ _ => false
def D.puL : List D → Bool
  | [] => true
  | x :: xs => D.pu x && D.puL xs
end
mutual
theorem eqv_iff : ∀ d e : D, d.pu = true → e.pu = true → (D.eqv d e = true ↔ d = e)
  | .non, e, _, he => by cases e <;> simp_all [D.eqv, D.pu]
  | .int i, e, _, he => by cases e <;> simp_all [D.eqv, D.pu]
  | .str s, e, _, he => by cases e <;> simp_all [D.eqv, D.pu]
  | .lst xs, .lst ys, hd, he => by
    rw [D.eqv, eqvL_iff xs ys (by simpa [D.pu] using hd) (by simpa [D.pu] using he)]
    simp
  | .tup xs, .tup ys, hd, he => by
    rw [D.eqv, eqvL_iff xs ys (by simpa [D.pu] using hd) (by simpa [D.pu] using he)]
    simp
  | .lst xs, .non, _, _ => by simp [D.eqv]
  | .lst xs, .int _, _, _ => by simp [D.eqv]
  | .lst xs, .str _, _, _ => by simp [D.eqv]
  | .lst xs, .tup _, _, _ => by simp [D.eqv]
  | .tup xs, .non, _, _ => by simp [D.eqv]
  | .tup xs, .int _, _, _ => by simp [D.eqv]
  | .tup xs, .str _, _, _ => by simp [D.eqv]
  | .tup xs, .lst _, _, _ => by simp [D.eqv]
theorem eqvL_iff : ∀ xs ys : List D, D.puL xs = true → D.puL ys = true → (D.eqvL xs ys = true ↔ xs = ys)
  | [], [], _, _ => by simp [D.eqvL]
  | [], _ :: _, _, _ => by simp [D.eqvL]
  | _ :: _, [], _, _ => by simp [D.eqvL]
  | x :: xs, y :: ys, hx, hy => by
    simp only [D.puL, Bool.and_eq_true] at hx hy
    rw [D.eqvL, Bool.and_eq_true, eqv_iff x y hx.1 hy.1, eqvL_iff xs ys hx.2 hy.2]
    simp
end
theorem puL_iff : ∀ {xs : List D}, D.puL xs = true ↔ ∀ x ∈ xs, D.pu x = true
  | [] => by simp [D.puL]
  | x :: xs => by
    rw [D.puL, Bool.and_eq_true, puL_iff]
    simp
theorem eqv_t {d e : D} (hd : d.pu = true) (he : e.pu = true) (h : d = e) : D.eqv d e = true := (eqv_iff d e hd he).mpr h
theorem eqv_f {d e : D} (hd : d.pu = true) (he : e.pu = true) (h : d ≠ e) : D.eqv d e = false := by
  rw [Bool.eq_false_iff]
  exact fun z => h ((eqv_iff d e hd he).mp z)
def D.isFz : D → Bool
  | .fz _ => true
  | _ => false
theorem opEq_of {d e : D} (h1 : d.isFz = false) (h2 : d.dep ≤ 60) (h3 : e.dep ≤ 60) : opEq d e = some (.bl (D.eqv d e)) := by
  unfold opEq pyEq
  split
  · cases h1
  · rw [if_pos ⟨h2, h3⟩]
    rfl
theorem opNe_of {d e : D} (h1 : d.isFz = false) (h2 : d.dep ≤ 60) (h3 : e.dep ≤ 60) : opNe d e = some (.bl (!D.eqv d e)) := by
  unfold opNe pyEq
  split
  · cases h1
  · rw [if_pos ⟨h2, h3⟩]
    rfl
section
variable {R C R' C' : Nat} {f g : F2}
theorem pu_Bo : (Bo R C f).pu = true := by
  rw [Bo, D.pu, puL_iff]
  intro x hx
  obtain ⟨i, _, rfl⟩ := List.mem_map.mp hx
  rfl
theorem dep_Bo : (Bo R C f).dep ≤ 60 := by
  rw [Bo, D.dep]
  have := depL_map (fun i => .str (row C (f i))) 0 (fun _ => Nat.le_refl _) (List.range R)
  omega
theorem eq_BB : opEq (Bo R C f) (Bo R' C' g) = some (.bl (D.eqv (Bo R C f) (Bo R' C' g))) := opEq_of rfl dep_Bo dep_Bo
theorem ne_BB : opNe (Bo R C f) (Bo R' C' g) = some (.bl (!D.eqv (Bo R C f) (Bo R' C' g))) := opNe_of rfl dep_Bo dep_Bo
theorem eqB_t (h : Bo R C f = Bo R' C' g) : D.eqv (Bo R C f) (Bo R' C' g) = true := eqv_t pu_Bo pu_Bo h
theorem eqB_f (h : Bo R C f ≠ Bo R' C' g) : D.eqv (Bo R C f) (Bo R' C' g) = false := eqv_f pu_Bo pu_Bo h
theorem eqB_r : D.eqv (Bo R C f) (Bo R C f) = true := eqB_t rfl
/-! ### the law's tick -/
theorem okS_cases {c : Nat} (h : okS c = true) : c = 35 ∨ c = 46 ∨ c = 42 ∨ c = 111 := by
  unfold okS at h
  simpa only [List.mem_cons, List.not_mem_nil, or_false, decide_eq_true_eq] using h
theorem cnt_bl {α : Type} {r r1 : En} {a : M D} (l : List α) (g : α → Bool) (h : a r = .ok (.lst (l.map fun q => .bl (g q))) r1) : eCnt a (eC (.bl true)) r = .ok (.int ((l.countP g : Nat) : Int)) r1 := by
  rw [cnt_ap, h, at_ok, cntK, c_ap, at_ok, if_pos]
  · rw [List.countP_map]
    have e : ((fun z => D.eqv z (.bl true)) ∘ fun q => .bl (g q)) = g := by
      funext x
      show D.eqv (.bl (g x)) (.bl true) = g x
      rw [D.eqv]
      cases g x <;> rfl
    rw [e, lf_some]
  · refine ⟨by decide, ?_⟩
    rw [D.dep]
    have := depL_map (fun q => D.bl (g q)) 0 (fun _ => Nat.le_refl _) l
    omega
def tkP (R C : Nat) (f : F2) (p : Nat × Nat) : Bool := decide ((nN R C p : Int) - (nI R C f p : Nat) < (nI R C f p : Nat)) || (((nI R C f p : Nat) : Int) == (nN R C p : Int) - (nI R C f p : Nat) && ic f p)
theorem draw_tick (hf : BD R C f) : Bo R C (draw f ((freeOf R C f).filter (tkP R C f))) = Bo R C (tick R C f) := by
  apply bo_eq
  intro i j hi hj
  unfold draw tick
  cases hl : laS (f i j)
  · simp only [Bool.false_eq_true, if_false, hi, hj, and_self, if_true]
    have hm : (i, j) ∈ (freeOf R C f).filter (tkP R C f) ↔ tkP R C f (i, j) = true := by
      rw [List.mem_filter]
      unfold freeOf
      rw [List.mem_filter, mem_cells]
      have : fr f (i, j) = true := by
        show frS (f i j) = true
        rw [fr_la (hf.ok i j), hl]
        rfl
      simp [hi, hj, this]
    have hle : nI R C f (i, j) ≤ nN R C (i, j) := List.countP_le_length
    have hs : f i j = 35 ∨ f i j = 46 := by
      rcases okS_cases (hf.ok i j) with h | h | h | h
      · exact .inl h
      · exact .inr h
      · rw [h] at hl; cases hl
      · rw [h] at hl; cases hl
    have ht : tkP R C f (i, j) = true ↔ (2 * nI R C f (i, j) > nN R C (i, j) ∨ (2 * nI R C f (i, j) = nN R C (i, j) ∧ f i j = 35)) := by
      unfold tkP
      simp only [Bool.or_eq_true, Bool.and_eq_true, decide_eq_true_eq, beq_iff_eq]
      have hic : ic f (i, j) = true ↔ f i j = 35 := by
        show icS (f i j) = true ↔ _
        rcases hs with h | h <;> rw [h] <;> decide
      rw [hic]
      omega
    by_cases h1 : 2 * nI R C f (i, j) = nN R C (i, j)
    · rw [if_pos h1]
      rcases hs with h | h
      · rw [if_pos (hm.mpr (ht.mpr (.inr ⟨h1, h⟩))), h]
      · rw [if_neg (fun z => ?_), h]
        rcases ht.mp (hm.mp z) with a | a
        · omega
        · rw [h] at a
          omega
    · rw [if_neg h1]
      by_cases h2 : 2 * nI R C f (i, j) > nN R C (i, j)
      · rw [if_pos h2, if_pos (hm.mpr (ht.mpr (.inl h2)))]
      · rw [if_neg h2, if_neg (fun z => ?_)]
        rcases ht.mp (hm.mp z) with a | a <;> omega
  · simp
theorem lticked_ok (h : Sh R C) (hf : BD R C f) : D__law_ticked [Bo R C f] = .ok (Bo R C (tick R C f)) := by
  have nl : ∀ p, (nb R C p).length ≤ lim := fun p => by
    have := nb_len h p
    show _ ≤ 100000
    omega
  simp only [D__law_ticked, B__law_ticked, run1, run2, run3, run4, Nat.reduceSub, List.replicate_succ, List.replicate_zero, Nat.reduceAdd, seq_ap, set_ap, setK_ap, ret_ap, retK_ap, if_ap, ifK_ap, nil_ap, exp_ap, expK_ap, par_ap, parA_ap, parB_ap, asg_ap, asgK_ap, asgQ_ap, aug_ap, augQ_ap, augK_ap, augL_ap, raise_ap, newL_ap, newK_ap, app_ap, appQ_ap, appK_ap, appL_ap, frz_ap, frzQ_ap, tv_ap, an_ap, anK_ap, or_ap, orK_ap, no_ap, noK_ap, ty_ap, e1_ap, e1K_ap, e2_ap, e2K_ap, e2L_ap, v_ap, vQ_ap, c_ap, call_ap, callK_ap, eB_ap, eBK_ap, aC_ap, aCA_ap, aCB_ap, aN_ap, tup_ap, tupK_ap, lst_ap, lstK_ap, eIf_ap, eIfK_ap, eAn_ap, eAnK_ap, eOr_ap, eOrK_ap, okF_ap, eNo_ap, ch_ap, chA_ap, chB_ap, chC_ap, ixO_ap, ixQ_own, ixQ_bor, ixK_ap, ixL_own, ixL_bor, callO_ap, coQ_ap, coK_ap, coL_ap, tow_ok, iL_ap, iT_ap, iS_ap, iEnum_ap, enK_ap, iR_ap, sl_ap, slA_ap, slB_ap, slC_ap, gNo_ap, gSo_ap, gsK_ap, setAll, at_ok, at_exc, lf_some, chK_t, chK_f, to_ok, to_exc, blK_ap, bK_ap, nK_ap, flK_nx, flK_ret, lK_ap, uK_ap, f_nx, f_ret, f_exc, List.getElem?_cons_zero, List.getElem?_cons_succ, List.set_cons_zero, List.set_cons_succ, cond_true, cond_false, Bool.not_true, Bool.not_false, Bool.false_eq_true, if_false]
  refine for_then (P := fun x => fin0 x = _) (freeOf R C f) cD [.dat (Bo R C f), .own [], .un, .un, .un, .un, .un]
    (fun p r => ∃ s1 s2 s3 s4, r = [.dat (Bo R C f), .own ((p.filter (tkP R C f)).map cD), s1, s2, s3, s4, .un]) ?_ ⟨_, _, _, _, rfl⟩ ?_ ?_
  · simp only [seq_ap, set_ap, setK_ap, ret_ap, retK_ap, if_ap, ifK_ap, nil_ap, exp_ap, expK_ap, par_ap, parA_ap, parB_ap, asg_ap, asgK_ap, asgQ_ap, aug_ap, augQ_ap, augK_ap, augL_ap, raise_ap, newL_ap, newK_ap, app_ap, appQ_ap, appK_ap, appL_ap, frz_ap, frzQ_ap, tv_ap, an_ap, anK_ap, or_ap, orK_ap, no_ap, noK_ap, ty_ap, e1_ap, e1K_ap, e2_ap, e2K_ap, e2L_ap, v_ap, vQ_ap, c_ap, call_ap, callK_ap, eB_ap, eBK_ap, aC_ap, aCA_ap, aCB_ap, aN_ap, tup_ap, tupK_ap, lst_ap, lstK_ap, eIf_ap, eIfK_ap, eAn_ap, eAnK_ap, eOr_ap, eOrK_ap, okF_ap, eNo_ap, ch_ap, chA_ap, chB_ap, chC_ap, ixO_ap, ixQ_own, ixQ_bor, ixK_ap, ixL_own, ixL_bor, callO_ap, coQ_ap, coK_ap, coL_ap, tow_ok, iL_ap, iT_ap, iS_ap, iEnum_ap, enK_ap, iR_ap, sl_ap, slA_ap, slB_ap, slC_ap, gNo_ap, gSo_ap, gsK_ap, setAll, at_ok, at_exc, lf_some, chK_t, chK_f, to_ok, to_exc, blK_ap, bK_ap, nK_ap, flK_nx, flK_ret, lK_ap, uK_ap, f_nx, f_ret, f_exc, List.getElem?_cons_zero, List.getElem?_cons_succ, List.set_cons_zero, List.set_cons_succ, cond_true, cond_false, Bool.not_true, Bool.not_false, Bool.false_eq_true, if_false, lfree_ok h]
  · rintro p c hp r ⟨s1, s2, s3, s4, rfl⟩
    have hc : c.1 < R ∧ c.2 < C := by
      have : c ∈ freeOf R C f := hp.subset (by simp)
      exact mem_cells.mp (List.mem_filter.mp this).1
    refine ⟨_, rfl, ?_⟩
    simp only [gN, seq_ap, set_ap, setK_ap, ret_ap, retK_ap, if_ap, ifK_ap, nil_ap, exp_ap, expK_ap, par_ap, parA_ap, parB_ap, asg_ap, asgK_ap, asgQ_ap, aug_ap, augQ_ap, augK_ap, augL_ap, raise_ap, newL_ap, newK_ap, app_ap, appQ_ap, appK_ap, appL_ap, frz_ap, frzQ_ap, tv_ap, an_ap, anK_ap, or_ap, orK_ap, no_ap, noK_ap, ty_ap, e1_ap, e1K_ap, e2_ap, e2K_ap, e2L_ap, v_ap, vQ_ap, c_ap, call_ap, callK_ap, eB_ap, eBK_ap, aC_ap, aCA_ap, aCB_ap, aN_ap, tup_ap, tupK_ap, lst_ap, lstK_ap, eIf_ap, eIfK_ap, eAn_ap, eAnK_ap, eOr_ap, eOrK_ap, okF_ap, eNo_ap, ch_ap, chA_ap, chB_ap, chC_ap, ixO_ap, ixQ_own, ixQ_bor, ixK_ap, ixL_own, ixL_bor, callO_ap, coQ_ap, coK_ap, coL_ap, tow_ok, iL_ap, iT_ap, iS_ap, iEnum_ap, enK_ap, iR_ap, sl_ap, slA_ap, slB_ap, slC_ap, gNo_ap, gSo_ap, gsK_ap, setAll, at_ok, at_exc, lf_some, chK_t, chK_f, to_ok, to_exc, blK_ap, bK_ap, nK_ap, flK_nx, flK_ret, lK_ap, uK_ap, f_nx, f_ret, f_exc, List.getElem?_cons_zero, List.getElem?_cons_succ, List.set_cons_zero, List.set_cons_succ, cond_true, cond_false, Bool.not_true, Bool.not_false, Bool.false_eq_true, if_false]
    rw [lc_A (nb R C c) cD (fun q => .bl (ic f q))]
    · simp only [seq_ap, set_ap, setK_ap, ret_ap, retK_ap, if_ap, ifK_ap, nil_ap, exp_ap, expK_ap, par_ap, parA_ap, parB_ap, asg_ap, asgK_ap, asgQ_ap, aug_ap, augQ_ap, augK_ap, augL_ap, raise_ap, newL_ap, newK_ap, app_ap, appQ_ap, appK_ap, appL_ap, frz_ap, frzQ_ap, tv_ap, an_ap, anK_ap, or_ap, orK_ap, no_ap, noK_ap, ty_ap, e1_ap, e1K_ap, e2_ap, e2K_ap, e2L_ap, v_ap, vQ_ap, c_ap, call_ap, callK_ap, eB_ap, eBK_ap, aC_ap, aCA_ap, aCB_ap, aN_ap, tup_ap, tupK_ap, lst_ap, lstK_ap, eIf_ap, eIfK_ap, eAn_ap, eAnK_ap, eOr_ap, eOrK_ap, okF_ap, eNo_ap, ch_ap, chA_ap, chB_ap, chC_ap, ixO_ap, ixQ_own, ixQ_bor, ixK_ap, ixL_own, ixL_bor, callO_ap, coQ_ap, coK_ap, coL_ap, tow_ok, iL_ap, iT_ap, iS_ap, iEnum_ap, enK_ap, iR_ap, sl_ap, slA_ap, slB_ap, slC_ap, gNo_ap, gSo_ap, gsK_ap, setAll, at_ok, at_exc, lf_some, chK_t, chK_f, to_ok, to_exc, blK_ap, bK_ap, nK_ap, flK_nx, flK_ret, lK_ap, uK_ap, f_nx, f_ret, f_exc, List.getElem?_cons_zero, List.getElem?_cons_succ, List.set_cons_zero, List.set_cons_succ, cond_true, cond_false, Bool.not_true, Bool.not_false, Bool.false_eq_true, if_false]
      rw [cnt_bl (nb R C c) (ic f) (v_ap.trans rfl)]
      have l1 : (List.map cD (p.filter (tkP R C f))).length < lim := by
        have h1 := free_len (f := f) h
        have h2 := hp.length_le
        have h3 := List.length_filter_le (tkP R C f) p
        rw [List.length_map]
        simp at h2
        show _ < 100000
        omega
      have e : ((nb R C c).countP (ic f)) = nI R C f c := rfl
      have e2 : (nb R C c).length = nN R C c := rfl
      simp only [seq_ap, set_ap, setK_ap, ret_ap, retK_ap, if_ap, ifK_ap, nil_ap, exp_ap, expK_ap, par_ap, parA_ap, parB_ap, asg_ap, asgK_ap, asgQ_ap, aug_ap, augQ_ap, augK_ap, augL_ap, raise_ap, newL_ap, newK_ap, app_ap, appQ_ap, appK_ap, appL_ap, frz_ap, frzQ_ap, tv_ap, an_ap, anK_ap, or_ap, orK_ap, no_ap, noK_ap, ty_ap, e1_ap, e1K_ap, e2_ap, e2K_ap, e2L_ap, v_ap, vQ_ap, c_ap, call_ap, callK_ap, eB_ap, eBK_ap, aC_ap, aCA_ap, aCB_ap, aN_ap, tup_ap, tupK_ap, lst_ap, lstK_ap, eIf_ap, eIfK_ap, eAn_ap, eAnK_ap, eOr_ap, eOrK_ap, okF_ap, eNo_ap, ch_ap, chA_ap, chB_ap, chC_ap, ixO_ap, ixQ_own, ixQ_bor, ixK_ap, ixL_own, ixL_bor, callO_ap, coQ_ap, coK_ap, coL_ap, tow_ok, iL_ap, iT_ap, iS_ap, iEnum_ap, enK_ap, iR_ap, sl_ap, slA_ap, slB_ap, slC_ap, gNo_ap, gSo_ap, gsK_ap, setAll, at_ok, at_exc, lf_some, chK_t, chK_f, to_ok, to_exc, blK_ap, bK_ap, nK_ap, flK_nx, flK_ret, lK_ap, uK_ap, f_nx, f_ret, f_exc, List.getElem?_cons_zero, List.getElem?_cons_succ, List.set_cons_zero, List.set_cons_succ, cond_true, cond_false, Bool.not_true, Bool.not_false, Bool.false_eq_true, if_false, len_lst, List.length_map, sub_int, gt_int, eq_int, lice_ok hc, e, e2]
      cases a1 : decide ((nN R C c : Int) - (nI R C f c : Nat) < (nI R C f c : Nat)) <;> cases a2 : (((nI R C f c : Nat) : Int) == (nN R C c : Int) - (nI R C f c : Nat)) <;> cases a3 : ic f c <;>
        simp only [seq_ap, set_ap, setK_ap, ret_ap, retK_ap, if_ap, ifK_ap, nil_ap, exp_ap, expK_ap, par_ap, parA_ap, parB_ap, asg_ap, asgK_ap, asgQ_ap, aug_ap, augQ_ap, augK_ap, augL_ap, raise_ap, newL_ap, newK_ap, app_ap, appQ_ap, appK_ap, appL_ap, frz_ap, frzQ_ap, tv_ap, an_ap, anK_ap, or_ap, orK_ap, no_ap, noK_ap, ty_ap, e1_ap, e1K_ap, e2_ap, e2K_ap, e2L_ap, v_ap, vQ_ap, c_ap, call_ap, callK_ap, eB_ap, eBK_ap, aC_ap, aCA_ap, aCB_ap, aN_ap, tup_ap, tupK_ap, lst_ap, lstK_ap, eIf_ap, eIfK_ap, eAn_ap, eAnK_ap, eOr_ap, eOrK_ap, okF_ap, eNo_ap, ch_ap, chA_ap, chB_ap, chC_ap, ixO_ap, ixQ_own, ixQ_bor, ixK_ap, ixL_own, ixL_bor, callO_ap, coQ_ap, coK_ap, coL_ap, tow_ok, iL_ap, iT_ap, iS_ap, iEnum_ap, enK_ap, iR_ap, sl_ap, slA_ap, slB_ap, slC_ap, gNo_ap, gSo_ap, gsK_ap, setAll, at_ok, at_exc, lf_some, chK_t, chK_f, to_ok, to_exc, blK_ap, bK_ap, nK_ap, flK_nx, flK_ret, lK_ap, uK_ap, f_nx, f_ret, f_exc, List.getElem?_cons_zero, List.getElem?_cons_succ, List.set_cons_zero, List.set_cons_succ, cond_true, cond_false, Bool.not_true, Bool.not_false, Bool.false_eq_true, if_false, a2, a3, if_pos l1] <;> exact nx_ok ⟨_, _, _, _, by
        simp only [List.filter_append, List.filter_cons, tkP, a1, a2, a3, List.filter_nil, if_true, List.map_append, List.map_cons, List.map_nil, Bool.or_false, Bool.or_true, Bool.and_true, Bool.and_false, Bool.false_eq_true, if_false, List.append_nil]
        rfl⟩
    · simp only [seq_ap, set_ap, setK_ap, ret_ap, retK_ap, if_ap, ifK_ap, nil_ap, exp_ap, expK_ap, par_ap, parA_ap, parB_ap, asg_ap, asgK_ap, asgQ_ap, aug_ap, augQ_ap, augK_ap, augL_ap, raise_ap, newL_ap, newK_ap, app_ap, appQ_ap, appK_ap, appL_ap, frz_ap, frzQ_ap, tv_ap, an_ap, anK_ap, or_ap, orK_ap, no_ap, noK_ap, ty_ap, e1_ap, e1K_ap, e2_ap, e2K_ap, e2L_ap, v_ap, vQ_ap, c_ap, call_ap, callK_ap, eB_ap, eBK_ap, aC_ap, aCA_ap, aCB_ap, aN_ap, tup_ap, tupK_ap, lst_ap, lstK_ap, eIf_ap, eIfK_ap, eAn_ap, eAnK_ap, eOr_ap, eOrK_ap, okF_ap, eNo_ap, ch_ap, chA_ap, chB_ap, chC_ap, ixO_ap, ixQ_own, ixQ_bor, ixK_ap, ixL_own, ixL_bor, callO_ap, coQ_ap, coK_ap, coL_ap, tow_ok, iL_ap, iT_ap, iS_ap, iEnum_ap, enK_ap, iR_ap, sl_ap, slA_ap, slB_ap, slC_ap, gNo_ap, gSo_ap, gsK_ap, setAll, at_ok, at_exc, lf_some, chK_t, chK_f, to_ok, to_exc, blK_ap, bK_ap, nK_ap, flK_nx, flK_ret, lK_ap, uK_ap, f_nx, f_ret, f_exc, List.getElem?_cons_zero, List.getElem?_cons_succ, List.set_cons_zero, List.set_cons_succ, cond_true, cond_false, Bool.not_true, Bool.not_false, Bool.false_eq_true, if_false, near_ok h]
    · exact ⟨rfl, ltL rfl, nl c⟩
    · intro q hq
      simp only [seq_ap, set_ap, setK_ap, ret_ap, retK_ap, if_ap, ifK_ap, nil_ap, exp_ap, expK_ap, par_ap, parA_ap, parB_ap, asg_ap, asgK_ap, asgQ_ap, aug_ap, augQ_ap, augK_ap, augL_ap, raise_ap, newL_ap, newK_ap, app_ap, appQ_ap, appK_ap, appL_ap, frz_ap, frzQ_ap, tv_ap, an_ap, anK_ap, or_ap, orK_ap, no_ap, noK_ap, ty_ap, e1_ap, e1K_ap, e2_ap, e2K_ap, e2L_ap, v_ap, vQ_ap, c_ap, call_ap, callK_ap, eB_ap, eBK_ap, aC_ap, aCA_ap, aCB_ap, aN_ap, tup_ap, tupK_ap, lst_ap, lstK_ap, eIf_ap, eIfK_ap, eAn_ap, eAnK_ap, eOr_ap, eOrK_ap, okF_ap, eNo_ap, ch_ap, chA_ap, chB_ap, chC_ap, ixO_ap, ixQ_own, ixQ_bor, ixK_ap, ixL_own, ixL_bor, callO_ap, coQ_ap, coK_ap, coL_ap, tow_ok, iL_ap, iT_ap, iS_ap, iEnum_ap, enK_ap, iR_ap, sl_ap, slA_ap, slB_ap, slC_ap, gNo_ap, gSo_ap, gsK_ap, setAll, at_ok, at_exc, lf_some, chK_t, chK_f, to_ok, to_exc, blK_ap, bK_ap, nK_ap, flK_nx, flK_ret, lK_ap, uK_ap, f_nx, f_ret, f_exc, List.getElem?_cons_zero, List.getElem?_cons_succ, List.set_cons_zero, List.set_cons_succ, cond_true, cond_false, Bool.not_true, Bool.not_false, Bool.false_eq_true, if_false, lice_ok (nb_mem hq)]
  · rintro r' ⟨s1, s2, s3, s4, rfl⟩
    simp only [seq_ap, set_ap, setK_ap, ret_ap, retK_ap, if_ap, ifK_ap, nil_ap, exp_ap, expK_ap, par_ap, parA_ap, parB_ap, asg_ap, asgK_ap, asgQ_ap, aug_ap, augQ_ap, augK_ap, augL_ap, raise_ap, newL_ap, newK_ap, app_ap, appQ_ap, appK_ap, appL_ap, frz_ap, frzQ_ap, tv_ap, an_ap, anK_ap, or_ap, orK_ap, no_ap, noK_ap, ty_ap, e1_ap, e1K_ap, e2_ap, e2K_ap, e2L_ap, v_ap, vQ_ap, c_ap, call_ap, callK_ap, eB_ap, eBK_ap, aC_ap, aCA_ap, aCB_ap, aN_ap, tup_ap, tupK_ap, lst_ap, lstK_ap, eIf_ap, eIfK_ap, eAn_ap, eAnK_ap, eOr_ap, eOrK_ap, okF_ap, eNo_ap, ch_ap, chA_ap, chB_ap, chC_ap, ixO_ap, ixQ_own, ixQ_bor, ixK_ap, ixL_own, ixL_bor, callO_ap, coQ_ap, coK_ap, coL_ap, tow_ok, iL_ap, iT_ap, iS_ap, iEnum_ap, enK_ap, iR_ap, sl_ap, slA_ap, slB_ap, slC_ap, gNo_ap, gSo_ap, gsK_ap, setAll, at_ok, at_exc, lf_some, chK_t, chK_f, to_ok, to_exc, blK_ap, bK_ap, nK_ap, flK_nx, flK_ret, lK_ap, uK_ap, f_nx, f_ret, f_exc, List.getElem?_cons_zero, List.getElem?_cons_succ, List.set_cons_zero, List.set_cons_succ, cond_true, cond_false, Bool.not_true, Bool.not_false, Bool.false_eq_true, if_false, laid_ok h (S := (freeOf R C f).filter (tkP R C f)) (.inl rfl), draw_tick hf]
end
end FB
namespace FB
/-! ### the mathematics of ticks -/
section
variable {R C : Nat} {f g x y : F2}
def tn (R C : Nat) (f : F2) : Nat → F2
  | 0 => f
  | n + 1 => tick R C (tn R C f n)
theorem tn_add (m n : Nat) : tn R C f (m + n) = tn R C (tn R C f m) n := by
  induction n with
  | zero => rfl
  | succ n ih =>
    show tick R C (tn R C f (m + n)) = tick R C (tn R C (tn R C f m) n)
    rw [ih]
theorem la_of {c : Nat} (h : okS c = true) (hl : laS c = false) : c = 35 ∨ c = 46 := by
  rcases okS_cases h with rfl | rfl | rfl | rfl
  · exact .inl rfl
  · exact .inr rfl
  · cases hl
  · cases hl
theorem tick_sign (hf : BD R C f) (i j : Nat) : tick R C f i j = (if laS (f i j) = true then f i j else if (i < R ∧ j < C) ∧ (2 * nI R C f (i, j) > nN R C (i, j) ∨ (2 * nI R C f (i, j) = nN R C (i, j) ∧ ic f (i, j) = true)) then 35 else 46) := by
  unfold tick
  cases hl : laS (f i j)
  · simp only [Bool.false_eq_true, if_false]
    by_cases hij : i < R ∧ j < C
    · have hic : ic f (i, j) = true ↔ f i j = 35 := by
        show icS (f i j) = true ↔ _
        rcases la_of (hf.ok i j) hl with h | h <;> rw [h] <;> decide
      by_cases h1 : 2 * nI R C f (i, j) = nN R C (i, j)
      · rw [if_pos h1]
        rcases la_of (hf.ok i j) hl with h | h
        · rw [if_pos ⟨hij, .inr ⟨h1, hic.mpr h⟩⟩, h]
        · rw [if_neg (fun z => ?_), h]
          rcases z.2 with a | a
          · omega
          · have := hic.mp a.2
            omega
      · rw [if_neg h1]
        by_cases h2 : 2 * nI R C f (i, j) > nN R C (i, j)
        · rw [if_pos h2, if_pos hij, if_pos ⟨hij, .inl h2⟩]
        · rw [if_neg h2, if_neg (fun z => ?_)]
          rcases z.2 with a | a <;> omega
    · rw [hf.out i j hij, if_neg (c := (i < R ∧ j < C) ∧ _) (fun z => hij z.1)]
      split
      · rfl
      · split
        · rfl
        · rfl
  · rfl
theorem tick_BD (hf : BD R C f) : BD R C (tick R C f) where
  ok i j := by
    rw [tick_sign hf]
    split
    · exact hf.ok i j
    · split <;> decide
  out i j h := by
    rw [tick_sign hf]
    have e := hf.out i j h
    rw [if_neg (by rw [e]; decide), if_neg (fun z => h z.1)]
theorem tn_BD (hf : BD R C f) : ∀ n, BD R C (tn R C f n)
  | 0 => hf
  | n + 1 => tick_BD (tn_BD hf n)
/-- the same shape -/
def SS (f g : F2) : Prop := ∀ i j, laS (f i j) = laS (g i j) ∧ (laS (f i j) = true → f i j = g i j)
theorem SS.rfl {f : F2} : SS f f := fun _ _ => ⟨by rfl, fun _ => by rfl⟩
theorem SS.symm {f g : F2} (h : SS f g) : SS g f := fun i j => ⟨(h i j).1.symm, fun z => ((h i j).2 ((h i j).1.trans z)).symm⟩
theorem SS.trans {f g x : F2} (h : SS f g) (k : SS g x) : SS f x := fun i j => ⟨(h i j).1.trans (k i j).1, fun z => ((h i j).2 z).trans ((k i j).2 ((h i j).1.symm.trans z))⟩
theorem tick_SS (hf : BD R C f) : SS (tick R C f) f := fun i j => by
  rw [tick_sign hf]
  cases hl : laS (f i j)
  · simp only [Bool.false_eq_true, if_false]
    split
    · exact ⟨by decide, fun z => by cases z⟩
    · exact ⟨by decide, fun z => by cases z⟩
  · rw [if_pos rfl]
    exact ⟨hl, fun _ => by rfl⟩
theorem ext_ice (hf : BD R C f) (hg : BD R C g) (hs : SS f g) (h : ∀ p ∈ cellsOf R C, ic f p = ic g p) : f = g := by
  funext i j
  by_cases hij : i < R ∧ j < C
  · cases hl : laS (f i j)
    · have h' := h (i, j) (mem_cells.mpr hij)
      rcases la_of (hf.ok i j) hl with a | a <;> rcases la_of (hg.ok i j) ((hs i j).1 ▸ hl) with b | b
      · rw [a, b]
      · simp [ic, a, b, icS] at h'
      · simp [ic, a, b, icS] at h'
      · rw [a, b]
    · exact (hs i j).2 hl
  · rw [hf.out i j hij, hg.out i j hij]
/-! sums -/
def sumL {α : Type} (l : List α) (F : α → Nat) : Nat := (l.map F).sum
theorem sumL_nil {α : Type} (F : α → Nat) : sumL [] F = 0 := rfl
theorem sumL_cons {α : Type} (a : α) (l : List α) (F : α → Nat) : sumL (a :: l) F = F a + sumL l F := by simp [sumL]
theorem sumL_add {α : Type} (l : List α) (F G : α → Nat) : sumL l (fun a => F a + G a) = sumL l F + sumL l G := by
  induction l with
  | nil => rfl
  | cons a l ih =>
    rw [sumL_cons, sumL_cons, sumL_cons, ih]
    omega
theorem sumL_zero {α : Type} (l : List α) : sumL l (fun _ => 0) = 0 := by
  induction l with
  | nil => rfl
  | cons a l ih => rw [sumL_cons, ih]
theorem sumL_swap {α β : Type} (l : List α) (m : List β) (F : α → β → Nat) : sumL l (fun a => sumL m (F a)) = sumL m (fun b => sumL l fun a => F a b) := by
  induction l with
  | nil =>
    simp only [sumL_nil]
    rw [sumL_zero]
  | cons a l ih =>
    rw [sumL_cons, ih, ← sumL_add]
    congr 1
theorem sumL_le {α : Type} {l : List α} {F G : α → Nat} (h : ∀ a ∈ l, F a ≤ G a) : sumL l F ≤ sumL l G := by
  induction l with
  | nil => exact Nat.le_refl _
  | cons a l ih =>
    rw [sumL_cons, sumL_cons]
    have := h a List.mem_cons_self
    have := ih fun b hb => h b (List.mem_cons_of_mem _ hb)
    omega
theorem sumL_lt {α : Type} {l : List α} {F G : α → Nat} (h : ∀ a ∈ l, F a ≤ G a) (b : α) (hb : b ∈ l) (hl : F b < G b) : sumL l F < sumL l G := by
  induction l with
  | nil => cases hb
  | cons a l ih =>
    rw [sumL_cons, sumL_cons]
    have h1 := h a List.mem_cons_self
    have h2 := sumL_le fun b hb => h b (List.mem_cons_of_mem a hb)
    rcases List.mem_cons.mp hb with rfl | hb
    · omega
    · have := ih (fun b hb => h b (List.mem_cons_of_mem _ hb)) hb
      omega
theorem sumL_congr {α : Type} {l : List α} {F G : α → Nat} (h : ∀ a ∈ l, F a = G a) : sumL l F = sumL l G :=
  Nat.le_antisymm (sumL_le fun a ha => Nat.le_of_eq (h a ha)) (sumL_le fun a ha => Nat.le_of_eq (h a ha).symm)
/-! the energy -/
def b1 (b : Bool) : Nat := if b then 1 else 0
/-- neighbours b of a with x b unlike v -/
def nU (R C : Nat) (x : F2) (a : Nat × Nat) (v : Bool) : Nat := sumL (cellsOf R C) fun b => b1 (adj a b && (v != ic x b))
def ten (R C : Nat) (y x : F2) : Nat := sumL (cellsOf R C) fun a => nU R C x a (ic y a)
def chg (R C : Nat) (y x : F2) : Nat := sumL (cellsOf R C) fun a => b1 (ic y a != ic x a)
def ene (R C : Nat) (y x : F2) : Nat := 2 * ten R C y x + chg R C y x
theorem adj_symm (a b : Nat × Nat) : adj a b = adj b a := by
  unfold adj
  rw [Bool.eq_iff_iff]
  simp only [Bool.or_eq_true, Bool.and_eq_true, beq_iff_eq]
  omega
theorem ten_symm : ten R C y x = ten R C x y := by
  unfold ten nU
  rw [sumL_swap]
  refine sumL_congr fun b _ => sumL_congr fun a _ => ?_
  rw [adj_symm a b]
  cases ic y a <;> cases ic x b <;> rfl
theorem chg_symm : chg R C y x = chg R C x y := by
  unfold chg
  refine sumL_congr fun a _ => ?_
  cases ic y a <;> cases ic x a <;> rfl
theorem sumL_count {α : Type} (l : List α) (p q : α → Bool) : sumL l (fun b => b1 (p b && q b)) = (l.filter p).countP q := by
  induction l with
  | nil => rfl
  | cons a l ih =>
    rw [sumL_cons, ih]
    cases hp : p a
    · rw [List.filter_cons_of_neg (by simp [hp])]
      simp [b1]
    · rw [List.filter_cons_of_pos hp, List.countP_cons]
      cases q a <;> simp [b1] <;> omega
theorem nU_t (a : Nat × Nat) : nU R C x a true = nN R C a - nI R C x a := by
  unfold nU nN nI
  rw [sumL_count]
  show (nb R C a).countP _ = _
  have := List.length_eq_countP_add_countP (ic x) (l := nb R C a)
  have e : (nb R C a).countP (fun b => true != ic x b) = (nb R C a).countP (fun b => decide (¬ ic x b = true)) := by
    congr 1
    funext b
    cases ic x b <;> rfl
  rw [e]
  omega
theorem nU_f (a : Nat × Nat) : nU R C x a false = nI R C x a := by
  unfold nU nI
  rw [sumL_count]
  show (nb R C a).countP _ = _
  congr 1
  funext b
  cases ic x b <;> rfl
theorem nI_le (a : Nat × Nat) : nI R C x a ≤ nN R C a := List.countP_le_length
theorem ic_tick (hf : BD R C f) {i j : Nat} (hij : i < R ∧ j < C) (hl : laS (f i j) = false) : ic (tick R C f) (i, j) = decide (2 * nI R C f (i, j) > nN R C (i, j) ∨ (2 * nI R C f (i, j) = nN R C (i, j) ∧ ic f (i, j) = true)) := by
  show icS (tick R C f i j) = _
  rw [tick_sign hf, hl]
  simp only [Bool.false_eq_true, if_false, hij, and_self, true_and]
  split
  · rename_i h
    rw [decide_eq_true h]
    rfl
  · rename_i h
    rw [decide_eq_false h]
    rfl
theorem ic_last (hf : BD R C f) {i j : Nat} (hl : laS (f i j) = true) : ic (tick R C f) (i, j) = ic f (i, j) := by
  show icS (tick R C f i j) = icS (f i j)
  rw [tick_sign hf, if_pos hl]
/-- one cell's part -/
def cel (R C : Nat) (y : F2) (v : Bool) (a : Nat × Nat) : Nat := 2 * nU R C y a v + b1 (v != ic y a)
theorem ene_sum (z y : F2) : ene R C z y = sumL (cellsOf R C) fun a => cel R C y (ic z a) a := by
  unfold ene ten chg cel
  rw [sumL_add, Nat.two_mul, ← sumL_add]
  congr 1
  refine sumL_congr fun a _ => ?_
  omega
theorem cel_lt (hy : BD R C y) {a : Nat × Nat} (ha : a ∈ cellsOf R C) (hl : laS (y a.1 a.2) = false) {v : Bool} (hv : ic (tick R C y) a ≠ v) : cel R C y (ic (tick R C y) a) a < cel R C y v a := by
  have e := ic_tick hy (mem_cells.mp ha) hl
  have hle := nI_le (R := R) (C := C) (x := y) a
  have ev : v = !ic (tick R C y) a := by
    cases h1 : ic (tick R C y) a <;> cases v <;> simp_all
  subst ev
  unfold cel
  cases hz : ic (tick R C y) a
  · rw [hz] at e
    have e := (decide_eq_false_iff_not.mp e.symm)
    rw [nU_f, Bool.not_false, nU_t]
    cases hy' : ic y a
    · rw [hy'] at e
      simp only [b1, bne_self_eq_false, Bool.false_eq_true, if_false]
      simp at e
      show _ < 2 * (nN R C a - nI R C y a) + 1
      have : 2 * nI R C y a ≤ nN R C a := e
      omega
    · rw [hy'] at e
      show 2 * nI R C y a + 1 < 2 * (nN R C a - nI R C y a) + 0
      simp only [and_true, not_or] at e
      have e1 : ¬ 2 * nI R C y a > nN R C a := e.1
      have e2 : ¬ 2 * nI R C y a = nN R C a := e.2
      omega
  · rw [hz] at e
    have e := (decide_eq_true_eq.mp e.symm)
    rw [nU_t, Bool.not_true, nU_f]
    cases hy' : ic y a
    · rw [hy'] at e
      have e : 2 * nI R C y a > nN R C a := by simpa using e
      show 2 * (nN R C a - nI R C y a) + 1 < 2 * nI R C y a + 0
      omega
    · have e : 2 * nI R C y a > nN R C a ∨ 2 * nI R C y a = nN R C a ∧ ic y a = true := e
      show 2 * (nN R C a - nI R C y a) + 0 < 2 * nI R C y a + 1
      omega
theorem cel_le (hx : BD R C x) {a : Nat × Nat} (ha : a ∈ cellsOf R C) : cel R C (tick R C x) (ic (tick R C (tick R C x)) a) a ≤ cel R C (tick R C x) (ic x a) a := by
  by_cases h : ic (tick R C (tick R C x)) a = ic x a
  · rw [h]
    exact Nat.le_refl _
  · refine Nat.le_of_lt (cel_lt (tick_BD hx) ha ?_ h)
    rw [Bool.eq_false_iff]
    intro hl
    have h1 := ic_last (tick_BD hx) hl
    have h2 := ic_last (f := x) hx (i := a.1) (j := a.2) (by rw [← (tick_SS hx a.1 a.2).1]; exact hl)
    exact h (h1.trans h2)
theorem ene_lt (hx : BD R C x) (h : tick R C (tick R C x) ≠ x) : ene R C (tick R C (tick R C x)) (tick R C x) < ene R C (tick R C x) x := by
  have : ene R C (tick R C x) x = ene R C x (tick R C x) := by unfold ene; rw [ten_symm, chg_symm]
  rw [this, ene_sum, ene_sum]
  have hne : ∃ a ∈ cellsOf R C, ic (tick R C (tick R C x)) a ≠ ic x a := by
    apply Classical.byContradiction
    intro hn
    refine h (ext_ice (tick_BD (tick_BD hx)) hx ((tick_SS (tick_BD hx)).trans (tick_SS hx)) fun p hp => ?_)
    apply Classical.byContradiction
    exact fun z => hn ⟨p, hp, z⟩
  obtain ⟨a, ha, hne⟩ := hne
  refine sumL_lt (fun a ha => cel_le hx ha) a ha (cel_lt (tick_BD hx) ha ?_ hne)
  rw [Bool.eq_false_iff]
  intro hl
  have h1 := ic_last (tick_BD hx) hl
  have h2 := ic_last (f := x) hx (i := a.1) (j := a.2) (by rw [← (tick_SS hx a.1 a.2).1]; exact hl)
  exact hne (h1.trans h2)
/-! when it ends -/
def eMax (R C : Nat) : Nat := 2 * sumL (cellsOf R C) (fun a => nN R C a) + R * C
theorem cells_len : (cellsOf R C).length = R * C := by
  unfold cellsOf
  rw [List.length_flatMap]
  simp only [List.length_map, List.length_range]
  rw [List.map_const', List.sum_replicate_nat, List.length_range]
theorem sumL_const {α : Type} (l : List α) (c : Nat) : sumL l (fun _ => c) = l.length * c := by
  induction l with
  | nil => simp [sumL]
  | cons a l ih =>
    rw [sumL_cons, ih, List.length_cons, Nat.add_mul]
    omega
theorem ene_max (z y : F2) : ene R C z y ≤ eMax R C := by
  unfold ene ten chg eMax
  have h1 : sumL (cellsOf R C) (fun a => nU R C y a (ic z a)) ≤ sumL (cellsOf R C) (fun a => nN R C a) := sumL_le fun a _ => by
    have := nI_le (R := R) (C := C) (x := y) a
    cases ic z a
    · rw [nU_f]
      omega
    · rw [nU_t]
      omega
  have h2 : sumL (cellsOf R C) (fun a => b1 (ic z a != ic y a)) ≤ sumL (cellsOf R C) (fun _ => 1) := sumL_le fun a _ => by
    cases (ic z a != ic y a) <;> decide
  rw [sumL_const, cells_len] at h2
  omega
theorem eMax0 : ((List.range 5).all fun R => (List.range 5).all fun C => decide (R * C ≤ 12 → eMax R C ≤ 80) && decide (R * C ≤ 7 → eMax R C ≤ 34)) = true := by decide +kernel
theorem eMax_le (h : Sh R C) : eMax R C ≤ 80 := by
  have h1 := h.r4
  have h2 := h.c4
  have a := List.all_eq_true.mp eMax0 R (List.mem_range.mpr (by omega))
  have b := List.all_eq_true.mp a C (List.mem_range.mpr (by omega))
  simp only [Bool.and_eq_true, decide_eq_true_eq] at b
  exact b.1 h.m
theorem ene_fall (hf : BD R C f) : ∀ n, (∀ t < n, tn R C f (t + 2) ≠ tn R C f t) → ene R C (tn R C f (n + 1)) (tn R C f n) + n ≤ eMax R C
  | 0, _ => ene_max _ _
  | n + 1, h => by
    have ih := ene_fall hf n fun t ht => h t (by omega)
    have := ene_lt (tn_BD hf n) (h n (by omega))
    show ene R C (tick R C (tick R C (tn R C f n))) (tick R C (tn R C f n)) + (n + 1) ≤ _
    have ih : ene R C (tick R C (tn R C f n)) (tn R C f n) + n ≤ eMax R C := ih
    omega
/-- the first tick of the fate -/
theorem fate_ex (hf : BD R C f) : ∃ t, t ≤ eMax R C ∧ tn R C f (t + 2) = tn R C f t ∧ ∀ s < t, tn R C f (s + 2) ≠ tn R C f s := by
  have h1 : ∃ t, t ≤ eMax R C ∧ tn R C f (t + 2) = tn R C f t := by
    apply Classical.byContradiction
    intro hn
    have := ene_fall hf (eMax R C + 1) fun t ht z => hn ⟨t, by omega, z⟩
    omega
  have key : ∀ n, (∃ t, t ≤ n ∧ tn R C f (t + 2) = tn R C f t) → ∃ t, t ≤ n ∧ tn R C f (t + 2) = tn R C f t ∧ ∀ s < t, tn R C f (s + 2) ≠ tn R C f s := by
    intro n
    induction n with
    | zero =>
      rintro ⟨t, ht, e⟩
      exact ⟨t, ht, e, fun s hs => by omega⟩
    | succ n ih =>
      intro hex
      by_cases hn : ∃ t, t ≤ n ∧ tn R C f (t + 2) = tn R C f t
      · obtain ⟨t, a, b, c⟩ := ih hn
        exact ⟨t, by omega, b, c⟩
      · obtain ⟨t, ht, e⟩ := hex
        refine ⟨t, ht, e, fun s hs z => hn ⟨s, by omega, z⟩⟩
  exact key _ h1
end
end FB
namespace FB
/-! ### is_board and the like -/
section
variable {R C : Nat} {f : F2}
theorem bls_map {α : Type} (g : α → Bool) : ∀ l : List α, bls (l.map fun x => .bl (g x)) = some (l.map g)
  | [] => rfl
  | x :: l => by
    rw [List.map_cons, bls, bls_map g l]
    rfl
theorem all_map {α : Type} (g : α → Bool) (l : List α) : bAll [.lst (l.map fun x => .bl (g x))] = some (.bl (l.all g)) := by
  rw [bAll, bls_map]
  simp [List.all_map, Function.comp_def]
theorem any_map {α : Type} (g : α → Bool) (l : List α) : bAny [.lst (l.map fun x => .bl (g x))] = some (.bl (l.any g)) := by
  rw [bAny, bls_map]
  simp [List.any_map, Function.comp_def]
theorem is_row_ok (s : List Nat) (n : Nat) (hs : s.length ≤ lim) : D_is_row [.str s, .int n] = .ok (.bl (decide (s.length = n) && s.all okS)) := by
  have e : ((s.length : Int) == (n : Int)) = decide (s.length = n) := by
    rw [Bool.eq_iff_iff]
    simp only [beq_iff_eq, decide_eq_true_eq]
    omega
  have e2 : bLen [.str s] = some (.int s.length) := rfl
  have e3 : isTy 2 (.str s) = some (.bl true) := rfl
  simp only [D_is_row, B_is_row, run1, run2, run3, run4, Nat.reduceSub, List.replicate_succ, List.replicate_zero, Nat.reduceAdd, seq_ap, set_ap, setK_ap, ret_ap, retK_ap, if_ap, ifK_ap, nil_ap, exp_ap, expK_ap, par_ap, parA_ap, parB_ap, asg_ap, asgK_ap, asgQ_ap, aug_ap, augQ_ap, augK_ap, augL_ap, raise_ap, newL_ap, newK_ap, app_ap, appQ_ap, appK_ap, appL_ap, frz_ap, frzQ_ap, tv_ap, an_ap, anK_ap, or_ap, orK_ap, no_ap, noK_ap, ty_ap, e1_ap, e1K_ap, e2_ap, e2K_ap, e2L_ap, v_ap, vQ_ap, c_ap, call_ap, callK_ap, eB_ap, eBK_ap, aC_ap, aCA_ap, aCB_ap, aN_ap, tup_ap, tupK_ap, lst_ap, lstK_ap, eIf_ap, eIfK_ap, eAn_ap, eAnK_ap, eOr_ap, eOrK_ap, okF_ap, eNo_ap, ch_ap, chA_ap, chB_ap, chC_ap, ixO_ap, ixQ_own, ixQ_bor, ixK_ap, ixL_own, ixL_bor, callO_ap, coQ_ap, coK_ap, coL_ap, tow_ok, iL_ap, iT_ap, iS_ap, iEnum_ap, enK_ap, iR_ap, sl_ap, slA_ap, slB_ap, slC_ap, gNo_ap, gSo_ap, gsK_ap, setAll, at_ok, at_exc, lf_some, chK_t, chK_f, to_ok, to_exc, blK_ap, bK_ap, nK_ap, flK_nx, flK_ret, lK_ap, uK_ap, f_nx, f_ret, f_exc, List.getElem?_cons_zero, List.getElem?_cons_succ, List.set_cons_zero, List.set_cons_succ, cond_true, cond_false, Bool.not_true, Bool.not_false, Bool.false_eq_true, if_false, e2, e3, eq_int, e]
  cases hd : decide (s.length = n)
  · simp only [seq_ap, set_ap, setK_ap, ret_ap, retK_ap, if_ap, ifK_ap, nil_ap, exp_ap, expK_ap, par_ap, parA_ap, parB_ap, asg_ap, asgK_ap, asgQ_ap, aug_ap, augQ_ap, augK_ap, augL_ap, raise_ap, newL_ap, newK_ap, app_ap, appQ_ap, appK_ap, appL_ap, frz_ap, frzQ_ap, tv_ap, an_ap, anK_ap, or_ap, orK_ap, no_ap, noK_ap, ty_ap, e1_ap, e1K_ap, e2_ap, e2K_ap, e2L_ap, v_ap, vQ_ap, c_ap, call_ap, callK_ap, eB_ap, eBK_ap, aC_ap, aCA_ap, aCB_ap, aN_ap, tup_ap, tupK_ap, lst_ap, lstK_ap, eIf_ap, eIfK_ap, eAn_ap, eAnK_ap, eOr_ap, eOrK_ap, okF_ap, eNo_ap, ch_ap, chA_ap, chB_ap, chC_ap, ixO_ap, ixQ_own, ixQ_bor, ixK_ap, ixL_own, ixL_bor, callO_ap, coQ_ap, coK_ap, coL_ap, tow_ok, iL_ap, iT_ap, iS_ap, iEnum_ap, enK_ap, iR_ap, sl_ap, slA_ap, slB_ap, slC_ap, gNo_ap, gSo_ap, gsK_ap, setAll, at_ok, at_exc, lf_some, chK_t, chK_f, to_ok, to_exc, blK_ap, bK_ap, nK_ap, flK_nx, flK_ret, lK_ap, uK_ap, f_nx, f_ret, f_exc, List.getElem?_cons_zero, List.getElem?_cons_succ, List.set_cons_zero, List.set_cons_succ, cond_true, cond_false, Bool.not_true, Bool.not_false, Bool.false_eq_true, if_false, Bool.false_and]
  · simp only [seq_ap, set_ap, setK_ap, ret_ap, retK_ap, if_ap, ifK_ap, nil_ap, exp_ap, expK_ap, par_ap, parA_ap, parB_ap, asg_ap, asgK_ap, asgQ_ap, aug_ap, augQ_ap, augK_ap, augL_ap, raise_ap, newL_ap, newK_ap, app_ap, appQ_ap, appK_ap, appL_ap, frz_ap, frzQ_ap, tv_ap, an_ap, anK_ap, or_ap, orK_ap, no_ap, noK_ap, ty_ap, e1_ap, e1K_ap, e2_ap, e2K_ap, e2L_ap, v_ap, vQ_ap, c_ap, call_ap, callK_ap, eB_ap, eBK_ap, aC_ap, aCA_ap, aCB_ap, aN_ap, tup_ap, tupK_ap, lst_ap, lstK_ap, eIf_ap, eIfK_ap, eAn_ap, eAnK_ap, eOr_ap, eOrK_ap, okF_ap, eNo_ap, ch_ap, chA_ap, chB_ap, chC_ap, ixO_ap, ixQ_own, ixQ_bor, ixK_ap, ixL_own, ixL_bor, callO_ap, coQ_ap, coK_ap, coL_ap, tow_ok, iL_ap, iT_ap, iS_ap, iEnum_ap, enK_ap, iR_ap, sl_ap, slA_ap, slB_ap, slC_ap, gNo_ap, gSo_ap, gsK_ap, setAll, at_ok, at_exc, lf_some, chK_t, chK_f, to_ok, to_exc, blK_ap, bK_ap, nK_ap, flK_nx, flK_ret, lK_ap, uK_ap, f_nx, f_ret, f_exc, List.getElem?_cons_zero, List.getElem?_cons_succ, List.set_cons_zero, List.set_cons_succ, cond_true, cond_false, Bool.not_true, Bool.not_false, Bool.false_eq_true, if_false, Bool.true_and]
    rw [lc_A s (fun c => .str [c]) (fun c => .bl (okS c))]
    · simp only [seq_ap, set_ap, setK_ap, ret_ap, retK_ap, if_ap, ifK_ap, nil_ap, exp_ap, expK_ap, par_ap, parA_ap, parB_ap, asg_ap, asgK_ap, asgQ_ap, aug_ap, augQ_ap, augK_ap, augL_ap, raise_ap, newL_ap, newK_ap, app_ap, appQ_ap, appK_ap, appL_ap, frz_ap, frzQ_ap, tv_ap, an_ap, anK_ap, or_ap, orK_ap, no_ap, noK_ap, ty_ap, e1_ap, e1K_ap, e2_ap, e2K_ap, e2L_ap, v_ap, vQ_ap, c_ap, call_ap, callK_ap, eB_ap, eBK_ap, aC_ap, aCA_ap, aCB_ap, aN_ap, tup_ap, tupK_ap, lst_ap, lstK_ap, eIf_ap, eIfK_ap, eAn_ap, eAnK_ap, eOr_ap, eOrK_ap, okF_ap, eNo_ap, ch_ap, chA_ap, chB_ap, chC_ap, ixO_ap, ixQ_own, ixQ_bor, ixK_ap, ixL_own, ixL_bor, callO_ap, coQ_ap, coK_ap, coL_ap, tow_ok, iL_ap, iT_ap, iS_ap, iEnum_ap, enK_ap, iR_ap, sl_ap, slA_ap, slB_ap, slC_ap, gNo_ap, gSo_ap, gsK_ap, setAll, at_ok, at_exc, lf_some, chK_t, chK_f, to_ok, to_exc, blK_ap, bK_ap, nK_ap, flK_nx, flK_ret, lK_ap, uK_ap, f_nx, f_ret, f_exc, List.getElem?_cons_zero, List.getElem?_cons_succ, List.set_cons_zero, List.set_cons_succ, cond_true, cond_false, Bool.not_true, Bool.not_false, Bool.false_eq_true, if_false, all_map]
    · simp only [seq_ap, set_ap, setK_ap, ret_ap, retK_ap, if_ap, ifK_ap, nil_ap, exp_ap, expK_ap, par_ap, parA_ap, parB_ap, asg_ap, asgK_ap, asgQ_ap, aug_ap, augQ_ap, augK_ap, augL_ap, raise_ap, newL_ap, newK_ap, app_ap, appQ_ap, appK_ap, appL_ap, frz_ap, frzQ_ap, tv_ap, an_ap, anK_ap, or_ap, orK_ap, no_ap, noK_ap, ty_ap, e1_ap, e1K_ap, e2_ap, e2K_ap, e2L_ap, v_ap, vQ_ap, c_ap, call_ap, callK_ap, eB_ap, eBK_ap, aC_ap, aCA_ap, aCB_ap, aN_ap, tup_ap, tupK_ap, lst_ap, lstK_ap, eIf_ap, eIfK_ap, eAn_ap, eAnK_ap, eOr_ap, eOrK_ap, okF_ap, eNo_ap, ch_ap, chA_ap, chB_ap, chC_ap, ixO_ap, ixQ_own, ixQ_bor, ixK_ap, ixL_own, ixL_bor, callO_ap, coQ_ap, coK_ap, coL_ap, tow_ok, iL_ap, iT_ap, iS_ap, iEnum_ap, enK_ap, iR_ap, sl_ap, slA_ap, slB_ap, slC_ap, gNo_ap, gSo_ap, gsK_ap, setAll, at_ok, at_exc, lf_some, chK_t, chK_f, to_ok, to_exc, blK_ap, bK_ap, nK_ap, flK_nx, flK_ret, lK_ap, uK_ap, f_nx, f_ret, f_exc, List.getElem?_cons_zero, List.getElem?_cons_succ, List.set_cons_zero, List.set_cons_succ, cond_true, cond_false, Bool.not_true, Bool.not_false, Bool.false_eq_true, if_false, sK_ap]
    · exact ⟨rfl, ltL rfl, hs⟩
    · intro c hc
      simp only [seq_ap, set_ap, setK_ap, ret_ap, retK_ap, if_ap, ifK_ap, nil_ap, exp_ap, expK_ap, par_ap, parA_ap, parB_ap, asg_ap, asgK_ap, asgQ_ap, aug_ap, augQ_ap, augK_ap, augL_ap, raise_ap, newL_ap, newK_ap, app_ap, appQ_ap, appK_ap, appL_ap, frz_ap, frzQ_ap, tv_ap, an_ap, anK_ap, or_ap, orK_ap, no_ap, noK_ap, ty_ap, e1_ap, e1K_ap, e2_ap, e2K_ap, e2L_ap, v_ap, vQ_ap, c_ap, call_ap, callK_ap, eB_ap, eBK_ap, aC_ap, aCA_ap, aCB_ap, aN_ap, tup_ap, tupK_ap, lst_ap, lstK_ap, eIf_ap, eIfK_ap, eAn_ap, eAnK_ap, eOr_ap, eOrK_ap, okF_ap, eNo_ap, ch_ap, chA_ap, chB_ap, chC_ap, ixO_ap, ixQ_own, ixQ_bor, ixK_ap, ixL_own, ixL_bor, callO_ap, coQ_ap, coK_ap, coL_ap, tow_ok, iL_ap, iT_ap, iS_ap, iEnum_ap, enK_ap, iR_ap, sl_ap, slA_ap, slB_ap, slC_ap, gNo_ap, gSo_ap, gsK_ap, setAll, at_ok, at_exc, lf_some, chK_t, chK_f, to_ok, to_exc, blK_ap, bK_ap, nK_ap, flK_nx, flK_ret, lK_ap, uK_ap, f_nx, f_ret, f_exc, List.getElem?_cons_zero, List.getElem?_cons_succ, List.set_cons_zero, List.set_cons_succ, cond_true, cond_false, Bool.not_true, Bool.not_false, Bool.false_eq_true, if_false, in_ok]
def isBS (rows : List (List Nat)) : Bool := decide (1 ≤ rows.length) && (decide (rows.length ≤ 4) && (decide (1 ≤ (rows.headD []).length) && (decide ((rows.headD []).length ≤ 4) && (decide ((rows.headD []).length * rows.length ≤ 12) && rows.all fun s => decide (s.length = (rows.headD []).length) && s.all okS))))
theorem is_board_ok (rows : List (List Nat)) (hr : rows.all (fun s => decide (s.length ≤ lim)) = true) : D_is_board [.tup (rows.map .str)] = .ok (.bl (isBS rows)) := by
  have e0 : isTy 3 (.tup (rows.map .str)) = some (.bl true) := rfl
  have e1 : bLen [.tup (rows.map .str)] = some (.int rows.length) := by rw [len_tup, List.length_map]
  simp only [D_is_board, B_is_board, run1, run2, run3, run4, Nat.reduceSub, List.replicate_succ, List.replicate_zero, Nat.reduceAdd, seq_ap, set_ap, setK_ap, ret_ap, retK_ap, if_ap, ifK_ap, nil_ap, exp_ap, expK_ap, par_ap, parA_ap, parB_ap, asg_ap, asgK_ap, asgQ_ap, aug_ap, augQ_ap, augK_ap, augL_ap, raise_ap, newL_ap, newK_ap, app_ap, appQ_ap, appK_ap, appL_ap, frz_ap, frzQ_ap, tv_ap, an_ap, anK_ap, or_ap, orK_ap, no_ap, noK_ap, ty_ap, e1_ap, e1K_ap, e2_ap, e2K_ap, e2L_ap, v_ap, vQ_ap, c_ap, call_ap, callK_ap, eB_ap, eBK_ap, aC_ap, aCA_ap, aCB_ap, aN_ap, tup_ap, tupK_ap, lst_ap, lstK_ap, eIf_ap, eIfK_ap, eAn_ap, eAnK_ap, eOr_ap, eOrK_ap, okF_ap, eNo_ap, ch_ap, chA_ap, chB_ap, chC_ap, ixO_ap, ixQ_own, ixQ_bor, ixK_ap, ixL_own, ixL_bor, callO_ap, coQ_ap, coK_ap, coL_ap, tow_ok, iL_ap, iT_ap, iS_ap, iEnum_ap, enK_ap, iR_ap, sl_ap, slA_ap, slB_ap, slC_ap, gNo_ap, gSo_ap, gsK_ap, setAll, at_ok, at_exc, lf_some, chK_t, chK_f, to_ok, to_exc, blK_ap, bK_ap, nK_ap, flK_nx, flK_ret, lK_ap, uK_ap, f_nx, f_ret, f_exc, List.getElem?_cons_zero, List.getElem?_cons_succ, List.set_cons_zero, List.set_cons_succ, cond_true, cond_false, Bool.not_true, Bool.not_false, Bool.false_eq_true, if_false, e0, e1, le_int]
  unfold isBS
  have i1 : decide ((1 : Int) ≤ (rows.length : Int)) = decide (1 ≤ rows.length) := by
    rw [Bool.eq_iff_iff]; simp only [decide_eq_true_eq]; omega
  have i2 : decide ((rows.length : Int) ≤ 4) = decide (rows.length ≤ 4) := by
    rw [Bool.eq_iff_iff]; simp only [decide_eq_true_eq]; omega
  rw [i1]
  cases c1 : decide (1 ≤ rows.length)
  · simp only [seq_ap, set_ap, setK_ap, ret_ap, retK_ap, if_ap, ifK_ap, nil_ap, exp_ap, expK_ap, par_ap, parA_ap, parB_ap, asg_ap, asgK_ap, asgQ_ap, aug_ap, augQ_ap, augK_ap, augL_ap, raise_ap, newL_ap, newK_ap, app_ap, appQ_ap, appK_ap, appL_ap, frz_ap, frzQ_ap, tv_ap, an_ap, anK_ap, or_ap, orK_ap, no_ap, noK_ap, ty_ap, e1_ap, e1K_ap, e2_ap, e2K_ap, e2L_ap, v_ap, vQ_ap, c_ap, call_ap, callK_ap, eB_ap, eBK_ap, aC_ap, aCA_ap, aCB_ap, aN_ap, tup_ap, tupK_ap, lst_ap, lstK_ap, eIf_ap, eIfK_ap, eAn_ap, eAnK_ap, eOr_ap, eOrK_ap, okF_ap, eNo_ap, ch_ap, chA_ap, chB_ap, chC_ap, ixO_ap, ixQ_own, ixQ_bor, ixK_ap, ixL_own, ixL_bor, callO_ap, coQ_ap, coK_ap, coL_ap, tow_ok, iL_ap, iT_ap, iS_ap, iEnum_ap, enK_ap, iR_ap, sl_ap, slA_ap, slB_ap, slC_ap, gNo_ap, gSo_ap, gsK_ap, setAll, at_ok, at_exc, lf_some, chK_t, chK_f, to_ok, to_exc, blK_ap, bK_ap, nK_ap, flK_nx, flK_ret, lK_ap, uK_ap, f_nx, f_ret, f_exc, List.getElem?_cons_zero, List.getElem?_cons_succ, List.set_cons_zero, List.set_cons_succ, cond_true, cond_false, Bool.not_true, Bool.not_false, Bool.false_eq_true, if_false, Bool.false_and]
  cases c2 : decide (rows.length ≤ 4)
  · simp only [seq_ap, set_ap, setK_ap, ret_ap, retK_ap, if_ap, ifK_ap, nil_ap, exp_ap, expK_ap, par_ap, parA_ap, parB_ap, asg_ap, asgK_ap, asgQ_ap, aug_ap, augQ_ap, augK_ap, augL_ap, raise_ap, newL_ap, newK_ap, app_ap, appQ_ap, appK_ap, appL_ap, frz_ap, frzQ_ap, tv_ap, an_ap, anK_ap, or_ap, orK_ap, no_ap, noK_ap, ty_ap, e1_ap, e1K_ap, e2_ap, e2K_ap, e2L_ap, v_ap, vQ_ap, c_ap, call_ap, callK_ap, eB_ap, eBK_ap, aC_ap, aCA_ap, aCB_ap, aN_ap, tup_ap, tupK_ap, lst_ap, lstK_ap, eIf_ap, eIfK_ap, eAn_ap, eAnK_ap, eOr_ap, eOrK_ap, okF_ap, eNo_ap, ch_ap, chA_ap, chB_ap, chC_ap, ixO_ap, ixQ_own, ixQ_bor, ixK_ap, ixL_own, ixL_bor, callO_ap, coQ_ap, coK_ap, coL_ap, tow_ok, iL_ap, iT_ap, iS_ap, iEnum_ap, enK_ap, iR_ap, sl_ap, slA_ap, slB_ap, slC_ap, gNo_ap, gSo_ap, gsK_ap, setAll, at_ok, at_exc, lf_some, chK_t, chK_f, to_ok, to_exc, blK_ap, bK_ap, nK_ap, flK_nx, flK_ret, lK_ap, uK_ap, f_nx, f_ret, f_exc, List.getElem?_cons_zero, List.getElem?_cons_succ, List.set_cons_zero, List.set_cons_succ, cond_true, cond_false, Bool.not_true, Bool.not_false, Bool.false_eq_true, if_false, le_int, i2, c2, Bool.false_and, Bool.and_false]
  obtain ⟨s, rest, rfl⟩ : ∃ s rest, rows = s :: rest := by
    cases rows with
    | nil => cases c1
    | cons s rest => exact ⟨s, rest, rfl⟩
  have x0 : opIx (.tup ((s :: rest).map .str)) (.int 0) = some (.str s) := rfl
  have x1 : isTy 2 (.str s) = some (.bl true) := rfl
  have x2 : bLen [.str s] = some (.int s.length) := rfl
  have x3 : (s :: rest).headD [] = s := rfl
  have hlen : (s :: rest).length ≤ 4 := of_decide_eq_true c2
  simp only [seq_ap, set_ap, setK_ap, ret_ap, retK_ap, if_ap, ifK_ap, nil_ap, exp_ap, expK_ap, par_ap, parA_ap, parB_ap, asg_ap, asgK_ap, asgQ_ap, aug_ap, augQ_ap, augK_ap, augL_ap, raise_ap, newL_ap, newK_ap, app_ap, appQ_ap, appK_ap, appL_ap, frz_ap, frzQ_ap, tv_ap, an_ap, anK_ap, or_ap, orK_ap, no_ap, noK_ap, ty_ap, e1_ap, e1K_ap, e2_ap, e2K_ap, e2L_ap, v_ap, vQ_ap, c_ap, call_ap, callK_ap, eB_ap, eBK_ap, aC_ap, aCA_ap, aCB_ap, aN_ap, tup_ap, tupK_ap, lst_ap, lstK_ap, eIf_ap, eIfK_ap, eAn_ap, eAnK_ap, eOr_ap, eOrK_ap, okF_ap, eNo_ap, ch_ap, chA_ap, chB_ap, chC_ap, ixO_ap, ixQ_own, ixQ_bor, ixK_ap, ixL_own, ixL_bor, callO_ap, coQ_ap, coK_ap, coL_ap, tow_ok, iL_ap, iT_ap, iS_ap, iEnum_ap, enK_ap, iR_ap, sl_ap, slA_ap, slB_ap, slC_ap, gNo_ap, gSo_ap, gsK_ap, setAll, at_ok, at_exc, lf_some, chK_t, chK_f, to_ok, to_exc, blK_ap, bK_ap, nK_ap, flK_nx, flK_ret, lK_ap, uK_ap, f_nx, f_ret, f_exc, List.getElem?_cons_zero, List.getElem?_cons_succ, List.set_cons_zero, List.set_cons_succ, cond_true, cond_false, Bool.not_true, Bool.not_false, Bool.false_eq_true, if_false, le_int, i2, c2, x0, x1, x2, x3, Bool.true_and]
  have i3 : decide ((1 : Int) ≤ (s.length : Int)) = decide (1 ≤ s.length) := by
    rw [Bool.eq_iff_iff]; simp only [decide_eq_true_eq]; omega
  have i4 : decide ((s.length : Int) ≤ 4) = decide (s.length ≤ 4) := by
    rw [Bool.eq_iff_iff]; simp only [decide_eq_true_eq]; omega
  rw [i3]
  cases c3 : decide (1 ≤ s.length)
  · simp only [seq_ap, set_ap, setK_ap, ret_ap, retK_ap, if_ap, ifK_ap, nil_ap, exp_ap, expK_ap, par_ap, parA_ap, parB_ap, asg_ap, asgK_ap, asgQ_ap, aug_ap, augQ_ap, augK_ap, augL_ap, raise_ap, newL_ap, newK_ap, app_ap, appQ_ap, appK_ap, appL_ap, frz_ap, frzQ_ap, tv_ap, an_ap, anK_ap, or_ap, orK_ap, no_ap, noK_ap, ty_ap, e1_ap, e1K_ap, e2_ap, e2K_ap, e2L_ap, v_ap, vQ_ap, c_ap, call_ap, callK_ap, eB_ap, eBK_ap, aC_ap, aCA_ap, aCB_ap, aN_ap, tup_ap, tupK_ap, lst_ap, lstK_ap, eIf_ap, eIfK_ap, eAn_ap, eAnK_ap, eOr_ap, eOrK_ap, okF_ap, eNo_ap, ch_ap, chA_ap, chB_ap, chC_ap, ixO_ap, ixQ_own, ixQ_bor, ixK_ap, ixL_own, ixL_bor, callO_ap, coQ_ap, coK_ap, coL_ap, tow_ok, iL_ap, iT_ap, iS_ap, iEnum_ap, enK_ap, iR_ap, sl_ap, slA_ap, slB_ap, slC_ap, gNo_ap, gSo_ap, gsK_ap, setAll, at_ok, at_exc, lf_some, chK_t, chK_f, to_ok, to_exc, blK_ap, bK_ap, nK_ap, flK_nx, flK_ret, lK_ap, uK_ap, f_nx, f_ret, f_exc, List.getElem?_cons_zero, List.getElem?_cons_succ, List.set_cons_zero, List.set_cons_succ, cond_true, cond_false, Bool.not_true, Bool.not_false, Bool.false_eq_true, if_false, Bool.false_and]
  cases c4 : decide (s.length ≤ 4)
  · simp only [seq_ap, set_ap, setK_ap, ret_ap, retK_ap, if_ap, ifK_ap, nil_ap, exp_ap, expK_ap, par_ap, parA_ap, parB_ap, asg_ap, asgK_ap, asgQ_ap, aug_ap, augQ_ap, augK_ap, augL_ap, raise_ap, newL_ap, newK_ap, app_ap, appQ_ap, appK_ap, appL_ap, frz_ap, frzQ_ap, tv_ap, an_ap, anK_ap, or_ap, orK_ap, no_ap, noK_ap, ty_ap, e1_ap, e1K_ap, e2_ap, e2K_ap, e2L_ap, v_ap, vQ_ap, c_ap, call_ap, callK_ap, eB_ap, eBK_ap, aC_ap, aCA_ap, aCB_ap, aN_ap, tup_ap, tupK_ap, lst_ap, lstK_ap, eIf_ap, eIfK_ap, eAn_ap, eAnK_ap, eOr_ap, eOrK_ap, okF_ap, eNo_ap, ch_ap, chA_ap, chB_ap, chC_ap, ixO_ap, ixQ_own, ixQ_bor, ixK_ap, ixL_own, ixL_bor, callO_ap, coQ_ap, coK_ap, coL_ap, tow_ok, iL_ap, iT_ap, iS_ap, iEnum_ap, enK_ap, iR_ap, sl_ap, slA_ap, slB_ap, slC_ap, gNo_ap, gSo_ap, gsK_ap, setAll, at_ok, at_exc, lf_some, chK_t, chK_f, to_ok, to_exc, blK_ap, bK_ap, nK_ap, flK_nx, flK_ret, lK_ap, uK_ap, f_nx, f_ret, f_exc, List.getElem?_cons_zero, List.getElem?_cons_succ, List.set_cons_zero, List.set_cons_succ, cond_true, cond_false, Bool.not_true, Bool.not_false, Bool.false_eq_true, if_false, le_int, i4, c4, Bool.false_and, Bool.and_false]
  have m1 : opMul (.int s.length) (.int (s :: rest).length) = some (.int ((s.length : Int) * ((s :: rest).length : Nat))) := if_pos (by
    unfold mulOk
    have : Nat.ble (((s :: rest).length : Nat) : Int).natAbs.log2 62 = true := by
      rw [Int.natAbs_natCast]
      refine Nat.ble_eq_true_of_le (Nat.le_trans (Nat.log2_le_self _) ?_)
      omega
    rw [this]
    rfl)
  have i5 : decide ((12 : Int) < (s.length : Int) * ((s :: rest).length : Nat)) = !decide (s.length * (s :: rest).length ≤ 12) := by
    rw [← Int.natCast_mul]
    rw [Bool.eq_iff_iff]
    simp only [decide_eq_true_eq, Bool.not_eq_true', decide_eq_false_iff_not]
    omega
  simp only [seq_ap, set_ap, setK_ap, ret_ap, retK_ap, if_ap, ifK_ap, nil_ap, exp_ap, expK_ap, par_ap, parA_ap, parB_ap, asg_ap, asgK_ap, asgQ_ap, aug_ap, augQ_ap, augK_ap, augL_ap, raise_ap, newL_ap, newK_ap, app_ap, appQ_ap, appK_ap, appL_ap, frz_ap, frzQ_ap, tv_ap, an_ap, anK_ap, or_ap, orK_ap, no_ap, noK_ap, ty_ap, e1_ap, e1K_ap, e2_ap, e2K_ap, e2L_ap, v_ap, vQ_ap, c_ap, call_ap, callK_ap, eB_ap, eBK_ap, aC_ap, aCA_ap, aCB_ap, aN_ap, tup_ap, tupK_ap, lst_ap, lstK_ap, eIf_ap, eIfK_ap, eAn_ap, eAnK_ap, eOr_ap, eOrK_ap, okF_ap, eNo_ap, ch_ap, chA_ap, chB_ap, chC_ap, ixO_ap, ixQ_own, ixQ_bor, ixK_ap, ixL_own, ixL_bor, callO_ap, coQ_ap, coK_ap, coL_ap, tow_ok, iL_ap, iT_ap, iS_ap, iEnum_ap, enK_ap, iR_ap, sl_ap, slA_ap, slB_ap, slC_ap, gNo_ap, gSo_ap, gsK_ap, setAll, at_ok, at_exc, lf_some, chK_t, chK_f, to_ok, to_exc, blK_ap, bK_ap, nK_ap, flK_nx, flK_ret, lK_ap, uK_ap, f_nx, f_ret, f_exc, List.getElem?_cons_zero, List.getElem?_cons_succ, List.set_cons_zero, List.set_cons_succ, cond_true, cond_false, Bool.not_true, Bool.not_false, Bool.false_eq_true, if_false, le_int, i4, c4, e1, m1, gt_int, i5, Bool.true_and]
  cases c5 : decide (s.length * (s :: rest).length ≤ 12)
  · simp only [seq_ap, set_ap, setK_ap, ret_ap, retK_ap, if_ap, ifK_ap, nil_ap, exp_ap, expK_ap, par_ap, parA_ap, parB_ap, asg_ap, asgK_ap, asgQ_ap, aug_ap, augQ_ap, augK_ap, augL_ap, raise_ap, newL_ap, newK_ap, app_ap, appQ_ap, appK_ap, appL_ap, frz_ap, frzQ_ap, tv_ap, an_ap, anK_ap, or_ap, orK_ap, no_ap, noK_ap, ty_ap, e1_ap, e1K_ap, e2_ap, e2K_ap, e2L_ap, v_ap, vQ_ap, c_ap, call_ap, callK_ap, eB_ap, eBK_ap, aC_ap, aCA_ap, aCB_ap, aN_ap, tup_ap, tupK_ap, lst_ap, lstK_ap, eIf_ap, eIfK_ap, eAn_ap, eAnK_ap, eOr_ap, eOrK_ap, okF_ap, eNo_ap, ch_ap, chA_ap, chB_ap, chC_ap, ixO_ap, ixQ_own, ixQ_bor, ixK_ap, ixL_own, ixL_bor, callO_ap, coQ_ap, coK_ap, coL_ap, tow_ok, iL_ap, iT_ap, iS_ap, iEnum_ap, enK_ap, iR_ap, sl_ap, slA_ap, slB_ap, slC_ap, gNo_ap, gSo_ap, gsK_ap, setAll, at_ok, at_exc, lf_some, chK_t, chK_f, to_ok, to_exc, blK_ap, bK_ap, nK_ap, flK_nx, flK_ret, lK_ap, uK_ap, f_nx, f_ret, f_exc, List.getElem?_cons_zero, List.getElem?_cons_succ, List.set_cons_zero, List.set_cons_succ, cond_true, cond_false, Bool.not_true, Bool.not_false, Bool.false_eq_true, if_false, Bool.false_and]
  simp only [seq_ap, set_ap, setK_ap, ret_ap, retK_ap, if_ap, ifK_ap, nil_ap, exp_ap, expK_ap, par_ap, parA_ap, parB_ap, asg_ap, asgK_ap, asgQ_ap, aug_ap, augQ_ap, augK_ap, augL_ap, raise_ap, newL_ap, newK_ap, app_ap, appQ_ap, appK_ap, appL_ap, frz_ap, frzQ_ap, tv_ap, an_ap, anK_ap, or_ap, orK_ap, no_ap, noK_ap, ty_ap, e1_ap, e1K_ap, e2_ap, e2K_ap, e2L_ap, v_ap, vQ_ap, c_ap, call_ap, callK_ap, eB_ap, eBK_ap, aC_ap, aCA_ap, aCB_ap, aN_ap, tup_ap, tupK_ap, lst_ap, lstK_ap, eIf_ap, eIfK_ap, eAn_ap, eAnK_ap, eOr_ap, eOrK_ap, okF_ap, eNo_ap, ch_ap, chA_ap, chB_ap, chC_ap, ixO_ap, ixQ_own, ixQ_bor, ixK_ap, ixL_own, ixL_bor, callO_ap, coQ_ap, coK_ap, coL_ap, tow_ok, iL_ap, iT_ap, iS_ap, iEnum_ap, enK_ap, iR_ap, sl_ap, slA_ap, slB_ap, slC_ap, gNo_ap, gSo_ap, gsK_ap, setAll, at_ok, at_exc, lf_some, chK_t, chK_f, to_ok, to_exc, blK_ap, bK_ap, nK_ap, flK_nx, flK_ret, lK_ap, uK_ap, f_nx, f_ret, f_exc, List.getElem?_cons_zero, List.getElem?_cons_succ, List.set_cons_zero, List.set_cons_succ, cond_true, cond_false, Bool.not_true, Bool.not_false, Bool.false_eq_true, if_false, Bool.true_and]
  rw [lc_A (s :: rest) .str (fun t => .bl (decide (t.length = s.length) && t.all okS))]
  · simp only [seq_ap, set_ap, setK_ap, ret_ap, retK_ap, if_ap, ifK_ap, nil_ap, exp_ap, expK_ap, par_ap, parA_ap, parB_ap, asg_ap, asgK_ap, asgQ_ap, aug_ap, augQ_ap, augK_ap, augL_ap, raise_ap, newL_ap, newK_ap, app_ap, appQ_ap, appK_ap, appL_ap, frz_ap, frzQ_ap, tv_ap, an_ap, anK_ap, or_ap, orK_ap, no_ap, noK_ap, ty_ap, e1_ap, e1K_ap, e2_ap, e2K_ap, e2L_ap, v_ap, vQ_ap, c_ap, call_ap, callK_ap, eB_ap, eBK_ap, aC_ap, aCA_ap, aCB_ap, aN_ap, tup_ap, tupK_ap, lst_ap, lstK_ap, eIf_ap, eIfK_ap, eAn_ap, eAnK_ap, eOr_ap, eOrK_ap, okF_ap, eNo_ap, ch_ap, chA_ap, chB_ap, chC_ap, ixO_ap, ixQ_own, ixQ_bor, ixK_ap, ixL_own, ixL_bor, callO_ap, coQ_ap, coK_ap, coL_ap, tow_ok, iL_ap, iT_ap, iS_ap, iEnum_ap, enK_ap, iR_ap, sl_ap, slA_ap, slB_ap, slC_ap, gNo_ap, gSo_ap, gsK_ap, setAll, at_ok, at_exc, lf_some, chK_t, chK_f, to_ok, to_exc, blK_ap, bK_ap, nK_ap, flK_nx, flK_ret, lK_ap, uK_ap, f_nx, f_ret, f_exc, List.getElem?_cons_zero, List.getElem?_cons_succ, List.set_cons_zero, List.set_cons_succ, cond_true, cond_false, Bool.not_true, Bool.not_false, Bool.false_eq_true, if_false, all_map]
  · simp only [seq_ap, set_ap, setK_ap, ret_ap, retK_ap, if_ap, ifK_ap, nil_ap, exp_ap, expK_ap, par_ap, parA_ap, parB_ap, asg_ap, asgK_ap, asgQ_ap, aug_ap, augQ_ap, augK_ap, augL_ap, raise_ap, newL_ap, newK_ap, app_ap, appQ_ap, appK_ap, appL_ap, frz_ap, frzQ_ap, tv_ap, an_ap, anK_ap, or_ap, orK_ap, no_ap, noK_ap, ty_ap, e1_ap, e1K_ap, e2_ap, e2K_ap, e2L_ap, v_ap, vQ_ap, c_ap, call_ap, callK_ap, eB_ap, eBK_ap, aC_ap, aCA_ap, aCB_ap, aN_ap, tup_ap, tupK_ap, lst_ap, lstK_ap, eIf_ap, eIfK_ap, eAn_ap, eAnK_ap, eOr_ap, eOrK_ap, okF_ap, eNo_ap, ch_ap, chA_ap, chB_ap, chC_ap, ixO_ap, ixQ_own, ixQ_bor, ixK_ap, ixL_own, ixL_bor, callO_ap, coQ_ap, coK_ap, coL_ap, tow_ok, iL_ap, iT_ap, iS_ap, iEnum_ap, enK_ap, iR_ap, sl_ap, slA_ap, slB_ap, slC_ap, gNo_ap, gSo_ap, gsK_ap, setAll, at_ok, at_exc, lf_some, chK_t, chK_f, to_ok, to_exc, blK_ap, bK_ap, nK_ap, flK_nx, flK_ret, lK_ap, uK_ap, f_nx, f_ret, f_exc, List.getElem?_cons_zero, List.getElem?_cons_succ, List.set_cons_zero, List.set_cons_succ, cond_true, cond_false, Bool.not_true, Bool.not_false, Bool.false_eq_true, if_false]
  · exact ⟨rfl, ltL rfl, by show _ ≤ 100000; omega⟩
  · intro t ht
    simp only [seq_ap, set_ap, setK_ap, ret_ap, retK_ap, if_ap, ifK_ap, nil_ap, exp_ap, expK_ap, par_ap, parA_ap, parB_ap, asg_ap, asgK_ap, asgQ_ap, aug_ap, augQ_ap, augK_ap, augL_ap, raise_ap, newL_ap, newK_ap, app_ap, appQ_ap, appK_ap, appL_ap, frz_ap, frzQ_ap, tv_ap, an_ap, anK_ap, or_ap, orK_ap, no_ap, noK_ap, ty_ap, e1_ap, e1K_ap, e2_ap, e2K_ap, e2L_ap, v_ap, vQ_ap, c_ap, call_ap, callK_ap, eB_ap, eBK_ap, aC_ap, aCA_ap, aCB_ap, aN_ap, tup_ap, tupK_ap, lst_ap, lstK_ap, eIf_ap, eIfK_ap, eAn_ap, eAnK_ap, eOr_ap, eOrK_ap, okF_ap, eNo_ap, ch_ap, chA_ap, chB_ap, chC_ap, ixO_ap, ixQ_own, ixQ_bor, ixK_ap, ixL_own, ixL_bor, callO_ap, coQ_ap, coK_ap, coL_ap, tow_ok, iL_ap, iT_ap, iS_ap, iEnum_ap, enK_ap, iR_ap, sl_ap, slA_ap, slB_ap, slC_ap, gNo_ap, gSo_ap, gsK_ap, setAll, at_ok, at_exc, lf_some, chK_t, chK_f, to_ok, to_exc, blK_ap, bK_ap, nK_ap, flK_nx, flK_ret, lK_ap, uK_ap, f_nx, f_ret, f_exc, List.getElem?_cons_zero, List.getElem?_cons_succ, List.set_cons_zero, List.set_cons_succ, cond_true, cond_false, Bool.not_true, Bool.not_false, Bool.false_eq_true, if_false, is_row_ok t s.length (of_decide_eq_true (List.all_eq_true.mp hr t ht))]
theorem Bo_rows : Bo R C f = .tup (((List.range R).map fun i => row C (f i)).map .str) := by
  rw [List.map_map]
  rfl
theorem isBS_Bo (h : Sh R C) (hf : ∀ i j, okS (f i j) = true) : isBS ((List.range R).map fun i => row C (f i)) = true := by
  unfold isBS
  have e : (((List.range R).map fun i => row C (f i)).headD []).length = C := by
    have := h.r1
    cases R with
    | zero => omega
    | succ n => simp [List.range_succ_eq_map, row]
  rw [e]
  simp only [List.length_map, List.length_range, Bool.and_eq_true, decide_eq_true_eq, List.all_eq_true]
  refine ⟨h.r1, h.r4, h.c1, h.c4, by rw [Nat.mul_comm]; exact h.m, ?_⟩
  intro s hs
  obtain ⟨i, _, rfl⟩ := List.mem_map.mp hs
  refine ⟨by simp [row], ?_⟩
  intro c hc
  obtain ⟨j, _, rfl⟩ := List.mem_map.mp hc
  exact hf i j
theorem isb_ok (h : Sh R C) (hf : ∀ i j, okS (f i j) = true) : D_is_board [Bo R C f] = .ok (.bl true) := by
  rw [Bo_rows, is_board_ok, isBS_Bo h hf]
  rw [List.all_eq_true]
  intro s hs
  obtain ⟨i, _, rfl⟩ := List.mem_map.mp hs
  have := h.c4
  simp [row, lim]
  omega
theorem needb_ok (h : Sh R C) (hf : ∀ i j, okS (f i j) = true) : D_need_board [Bo R C f] = .ok .non := by
  simp only [D_need_board, B_need_board, run1, run2, run3, run4, Nat.reduceSub, List.replicate_succ, List.replicate_zero, Nat.reduceAdd, seq_ap, set_ap, setK_ap, ret_ap, retK_ap, if_ap, ifK_ap, nil_ap, exp_ap, expK_ap, par_ap, parA_ap, parB_ap, asg_ap, asgK_ap, asgQ_ap, aug_ap, augQ_ap, augK_ap, augL_ap, raise_ap, newL_ap, newK_ap, app_ap, appQ_ap, appK_ap, appL_ap, frz_ap, frzQ_ap, tv_ap, an_ap, anK_ap, or_ap, orK_ap, no_ap, noK_ap, ty_ap, e1_ap, e1K_ap, e2_ap, e2K_ap, e2L_ap, v_ap, vQ_ap, c_ap, call_ap, callK_ap, eB_ap, eBK_ap, aC_ap, aCA_ap, aCB_ap, aN_ap, tup_ap, tupK_ap, lst_ap, lstK_ap, eIf_ap, eIfK_ap, eAn_ap, eAnK_ap, eOr_ap, eOrK_ap, okF_ap, eNo_ap, ch_ap, chA_ap, chB_ap, chC_ap, ixO_ap, ixQ_own, ixQ_bor, ixK_ap, ixL_own, ixL_bor, callO_ap, coQ_ap, coK_ap, coL_ap, tow_ok, iL_ap, iT_ap, iS_ap, iEnum_ap, enK_ap, iR_ap, sl_ap, slA_ap, slB_ap, slC_ap, gNo_ap, gSo_ap, gsK_ap, setAll, at_ok, at_exc, lf_some, chK_t, chK_f, to_ok, to_exc, blK_ap, bK_ap, nK_ap, flK_nx, flK_ret, lK_ap, uK_ap, f_nx, f_ret, f_exc, List.getElem?_cons_zero, List.getElem?_cons_succ, List.set_cons_zero, List.set_cons_succ, cond_true, cond_false, Bool.not_true, Bool.not_false, Bool.false_eq_true, if_false, isb_ok h hf]
/-! ### ticks -/
theorem later_ok (h : Sh R C) (n : Nat) (hn : n ≤ 100000) : D_later [Bo R C f, .int n] = .ok (Bo R C (tn R C f n)) := by
  simp only [D_later, B_later, run1, run2, run3, run4, Nat.reduceSub, List.replicate_succ, List.replicate_zero, Nat.reduceAdd, seq_ap, set_ap, setK_ap, ret_ap, retK_ap, if_ap, ifK_ap, nil_ap, exp_ap, expK_ap, par_ap, parA_ap, parB_ap, asg_ap, asgK_ap, asgQ_ap, aug_ap, augQ_ap, augK_ap, augL_ap, raise_ap, newL_ap, newK_ap, app_ap, appQ_ap, appK_ap, appL_ap, frz_ap, frzQ_ap, tv_ap, an_ap, anK_ap, or_ap, orK_ap, no_ap, noK_ap, ty_ap, e1_ap, e1K_ap, e2_ap, e2K_ap, e2L_ap, v_ap, vQ_ap, c_ap, call_ap, callK_ap, eB_ap, eBK_ap, aC_ap, aCA_ap, aCB_ap, aN_ap, tup_ap, tupK_ap, lst_ap, lstK_ap, eIf_ap, eIfK_ap, eAn_ap, eAnK_ap, eOr_ap, eOrK_ap, okF_ap, eNo_ap, ch_ap, chA_ap, chB_ap, chC_ap, ixO_ap, ixQ_own, ixQ_bor, ixK_ap, ixL_own, ixL_bor, callO_ap, coQ_ap, coK_ap, coL_ap, tow_ok, iL_ap, iT_ap, iS_ap, iEnum_ap, enK_ap, iR_ap, sl_ap, slA_ap, slB_ap, slC_ap, gNo_ap, gSo_ap, gsK_ap, setAll, at_ok, at_exc, lf_some, chK_t, chK_f, to_ok, to_exc, blK_ap, bK_ap, nK_ap, flK_nx, flK_ret, lK_ap, uK_ap, f_nx, f_ret, f_exc, List.getElem?_cons_zero, List.getElem?_cons_succ, List.set_cons_zero, List.set_cons_succ, cond_true, cond_false, Bool.not_true, Bool.not_false, Bool.false_eq_true, if_false]
  refine for_then (P := fun x => fin0 x = _) (List.range n) (fun i => .int (i : Nat)) [.dat (Bo R C f), .dat (.int n), .un]
    (fun p r => ∃ s1, r = [.dat (Bo R C (tn R C f p.length)), .dat (.int n), s1]) ?_ ⟨_, rfl⟩ ?_ ?_
  · simp only [seq_ap, set_ap, setK_ap, ret_ap, retK_ap, if_ap, ifK_ap, nil_ap, exp_ap, expK_ap, par_ap, parA_ap, parB_ap, asg_ap, asgK_ap, asgQ_ap, aug_ap, augQ_ap, augK_ap, augL_ap, raise_ap, newL_ap, newK_ap, app_ap, appQ_ap, appK_ap, appL_ap, frz_ap, frzQ_ap, tv_ap, an_ap, anK_ap, or_ap, orK_ap, no_ap, noK_ap, ty_ap, e1_ap, e1K_ap, e2_ap, e2K_ap, e2L_ap, v_ap, vQ_ap, c_ap, call_ap, callK_ap, eB_ap, eBK_ap, aC_ap, aCA_ap, aCB_ap, aN_ap, tup_ap, tupK_ap, lst_ap, lstK_ap, eIf_ap, eIfK_ap, eAn_ap, eAnK_ap, eOr_ap, eOrK_ap, okF_ap, eNo_ap, ch_ap, chA_ap, chB_ap, chC_ap, ixO_ap, ixQ_own, ixQ_bor, ixK_ap, ixL_own, ixL_bor, callO_ap, coQ_ap, coK_ap, coL_ap, tow_ok, iL_ap, iT_ap, iS_ap, iEnum_ap, enK_ap, iR_ap, sl_ap, slA_ap, slB_ap, slC_ap, gNo_ap, gSo_ap, gsK_ap, setAll, at_ok, at_exc, lf_some, chK_t, chK_f, to_ok, to_exc, blK_ap, bK_ap, nK_ap, flK_nx, flK_ret, lK_ap, uK_ap, f_nx, f_ret, f_exc, List.getElem?_cons_zero, List.getElem?_cons_succ, List.set_cons_zero, List.set_cons_succ, cond_true, cond_false, Bool.not_true, Bool.not_false, Bool.false_eq_true, if_false, rgK_nat hn]
  · rintro p i hp r ⟨s1, rfl⟩
    refine ⟨_, rfl, ?_⟩
    simp only [gN, seq_ap, set_ap, setK_ap, ret_ap, retK_ap, if_ap, ifK_ap, nil_ap, exp_ap, expK_ap, par_ap, parA_ap, parB_ap, asg_ap, asgK_ap, asgQ_ap, aug_ap, augQ_ap, augK_ap, augL_ap, raise_ap, newL_ap, newK_ap, app_ap, appQ_ap, appK_ap, appL_ap, frz_ap, frzQ_ap, tv_ap, an_ap, anK_ap, or_ap, orK_ap, no_ap, noK_ap, ty_ap, e1_ap, e1K_ap, e2_ap, e2K_ap, e2L_ap, v_ap, vQ_ap, c_ap, call_ap, callK_ap, eB_ap, eBK_ap, aC_ap, aCA_ap, aCB_ap, aN_ap, tup_ap, tupK_ap, lst_ap, lstK_ap, eIf_ap, eIfK_ap, eAn_ap, eAnK_ap, eOr_ap, eOrK_ap, okF_ap, eNo_ap, ch_ap, chA_ap, chB_ap, chC_ap, ixO_ap, ixQ_own, ixQ_bor, ixK_ap, ixL_own, ixL_bor, callO_ap, coQ_ap, coK_ap, coL_ap, tow_ok, iL_ap, iT_ap, iS_ap, iEnum_ap, enK_ap, iR_ap, sl_ap, slA_ap, slB_ap, slC_ap, gNo_ap, gSo_ap, gsK_ap, setAll, at_ok, at_exc, lf_some, chK_t, chK_f, to_ok, to_exc, blK_ap, bK_ap, nK_ap, flK_nx, flK_ret, lK_ap, uK_ap, f_nx, f_ret, f_exc, List.getElem?_cons_zero, List.getElem?_cons_succ, List.set_cons_zero, List.set_cons_succ, cond_true, cond_false, Bool.not_true, Bool.not_false, Bool.false_eq_true, if_false, ticked_ok h]
    exact nx_ok ⟨_, by rw [List.length_append]; rfl⟩
  · rintro r' ⟨s1, rfl⟩
    simp only [seq_ap, set_ap, setK_ap, ret_ap, retK_ap, if_ap, ifK_ap, nil_ap, exp_ap, expK_ap, par_ap, parA_ap, parB_ap, asg_ap, asgK_ap, asgQ_ap, aug_ap, augQ_ap, augK_ap, augL_ap, raise_ap, newL_ap, newK_ap, app_ap, appQ_ap, appK_ap, appL_ap, frz_ap, frzQ_ap, tv_ap, an_ap, anK_ap, or_ap, orK_ap, no_ap, noK_ap, ty_ap, e1_ap, e1K_ap, e2_ap, e2K_ap, e2L_ap, v_ap, vQ_ap, c_ap, call_ap, callK_ap, eB_ap, eBK_ap, aC_ap, aCA_ap, aCB_ap, aN_ap, tup_ap, tupK_ap, lst_ap, lstK_ap, eIf_ap, eIfK_ap, eAn_ap, eAnK_ap, eOr_ap, eOrK_ap, okF_ap, eNo_ap, ch_ap, chA_ap, chB_ap, chC_ap, ixO_ap, ixQ_own, ixQ_bor, ixK_ap, ixL_own, ixL_bor, callO_ap, coQ_ap, coK_ap, coL_ap, tow_ok, iL_ap, iT_ap, iS_ap, iEnum_ap, enK_ap, iR_ap, sl_ap, slA_ap, slB_ap, slC_ap, gNo_ap, gSo_ap, gsK_ap, setAll, at_ok, at_exc, lf_some, chK_t, chK_f, to_ok, to_exc, blK_ap, bK_ap, nK_ap, flK_nx, flK_ret, lK_ap, uK_ap, f_nx, f_ret, f_exc, List.getElem?_cons_zero, List.getElem?_cons_succ, List.set_cons_zero, List.set_cons_succ, cond_true, cond_false, Bool.not_true, Bool.not_false, Bool.false_eq_true, if_false, List.length_range]
theorem is_whole_ok (n : Int) (a b : Int) : D_is_whole [.int n, .int a, .int b] = .ok (.bl (decide (a ≤ n) && decide (n ≤ b))) := by
  simp only [D_is_whole, B_is_whole, run1, run2, run3, run4, Nat.reduceSub, List.replicate_succ, List.replicate_zero, Nat.reduceAdd, seq_ap, set_ap, setK_ap, ret_ap, retK_ap, if_ap, ifK_ap, nil_ap, exp_ap, expK_ap, par_ap, parA_ap, parB_ap, asg_ap, asgK_ap, asgQ_ap, aug_ap, augQ_ap, augK_ap, augL_ap, raise_ap, newL_ap, newK_ap, app_ap, appQ_ap, appK_ap, appL_ap, frz_ap, frzQ_ap, tv_ap, an_ap, anK_ap, or_ap, orK_ap, no_ap, noK_ap, ty_ap, e1_ap, e1K_ap, e2_ap, e2K_ap, e2L_ap, v_ap, vQ_ap, c_ap, call_ap, callK_ap, eB_ap, eBK_ap, aC_ap, aCA_ap, aCB_ap, aN_ap, tup_ap, tupK_ap, lst_ap, lstK_ap, eIf_ap, eIfK_ap, eAn_ap, eAnK_ap, eOr_ap, eOrK_ap, okF_ap, eNo_ap, ch_ap, chA_ap, chB_ap, chC_ap, ixO_ap, ixQ_own, ixQ_bor, ixK_ap, ixL_own, ixL_bor, callO_ap, coQ_ap, coK_ap, coL_ap, tow_ok, iL_ap, iT_ap, iS_ap, iEnum_ap, enK_ap, iR_ap, sl_ap, slA_ap, slB_ap, slC_ap, gNo_ap, gSo_ap, gsK_ap, setAll, at_ok, at_exc, lf_some, chK_t, chK_f, to_ok, to_exc, blK_ap, bK_ap, nK_ap, flK_nx, flK_ret, lK_ap, uK_ap, f_nx, f_ret, f_exc, List.getElem?_cons_zero, List.getElem?_cons_succ, List.set_cons_zero, List.set_cons_succ, cond_true, cond_false, Bool.not_true, Bool.not_false, Bool.false_eq_true, if_false, isTy, le_int, beq_self_eq_true, Bool.or_self, show ((0 : Nat) == 1) = false from rfl, show ((1 : Nat) == 0) = false from rfl]
  cases decide (a ≤ n)
  · simp only [seq_ap, set_ap, setK_ap, ret_ap, retK_ap, if_ap, ifK_ap, nil_ap, exp_ap, expK_ap, par_ap, parA_ap, parB_ap, asg_ap, asgK_ap, asgQ_ap, aug_ap, augQ_ap, augK_ap, augL_ap, raise_ap, newL_ap, newK_ap, app_ap, appQ_ap, appK_ap, appL_ap, frz_ap, frzQ_ap, tv_ap, an_ap, anK_ap, or_ap, orK_ap, no_ap, noK_ap, ty_ap, e1_ap, e1K_ap, e2_ap, e2K_ap, e2L_ap, v_ap, vQ_ap, c_ap, call_ap, callK_ap, eB_ap, eBK_ap, aC_ap, aCA_ap, aCB_ap, aN_ap, tup_ap, tupK_ap, lst_ap, lstK_ap, eIf_ap, eIfK_ap, eAn_ap, eAnK_ap, eOr_ap, eOrK_ap, okF_ap, eNo_ap, ch_ap, chA_ap, chB_ap, chC_ap, ixO_ap, ixQ_own, ixQ_bor, ixK_ap, ixL_own, ixL_bor, callO_ap, coQ_ap, coK_ap, coL_ap, tow_ok, iL_ap, iT_ap, iS_ap, iEnum_ap, enK_ap, iR_ap, sl_ap, slA_ap, slB_ap, slC_ap, gNo_ap, gSo_ap, gsK_ap, setAll, at_ok, at_exc, lf_some, chK_t, chK_f, to_ok, to_exc, blK_ap, bK_ap, nK_ap, flK_nx, flK_ret, lK_ap, uK_ap, f_nx, f_ret, f_exc, List.getElem?_cons_zero, List.getElem?_cons_succ, List.set_cons_zero, List.set_cons_succ, cond_true, cond_false, Bool.not_true, Bool.not_false, Bool.false_eq_true, if_false, Bool.false_and]
  · simp only [seq_ap, set_ap, setK_ap, ret_ap, retK_ap, if_ap, ifK_ap, nil_ap, exp_ap, expK_ap, par_ap, parA_ap, parB_ap, asg_ap, asgK_ap, asgQ_ap, aug_ap, augQ_ap, augK_ap, augL_ap, raise_ap, newL_ap, newK_ap, app_ap, appQ_ap, appK_ap, appL_ap, frz_ap, frzQ_ap, tv_ap, an_ap, anK_ap, or_ap, orK_ap, no_ap, noK_ap, ty_ap, e1_ap, e1K_ap, e2_ap, e2K_ap, e2L_ap, v_ap, vQ_ap, c_ap, call_ap, callK_ap, eB_ap, eBK_ap, aC_ap, aCA_ap, aCB_ap, aN_ap, tup_ap, tupK_ap, lst_ap, lstK_ap, eIf_ap, eIfK_ap, eAn_ap, eAnK_ap, eOr_ap, eOrK_ap, okF_ap, eNo_ap, ch_ap, chA_ap, chB_ap, chC_ap, ixO_ap, ixQ_own, ixQ_bor, ixK_ap, ixL_own, ixL_bor, callO_ap, coQ_ap, coK_ap, coL_ap, tow_ok, iL_ap, iT_ap, iS_ap, iEnum_ap, enK_ap, iR_ap, sl_ap, slA_ap, slB_ap, slC_ap, gNo_ap, gSo_ap, gsK_ap, setAll, at_ok, at_exc, lf_some, chK_t, chK_f, to_ok, to_exc, blK_ap, bK_ap, nK_ap, flK_nx, flK_ret, lK_ap, uK_ap, f_nx, f_ret, f_exc, List.getElem?_cons_zero, List.getElem?_cons_succ, List.set_cons_zero, List.set_cons_succ, cond_true, cond_false, Bool.not_true, Bool.not_false, Bool.false_eq_true, if_false, le_int, Bool.true_and]
theorem needt_ok (n : Nat) (hn : n ≤ 100) : D_need_ticks [.int n] = .ok .non := by
  have e : (decide ((0 : Int) ≤ n) && decide ((n : Int) ≤ 100)) = true := by simp; omega
  simp only [D_need_ticks, B_need_ticks, run1, run2, run3, run4, Nat.reduceSub, List.replicate_succ, List.replicate_zero, Nat.reduceAdd, seq_ap, set_ap, setK_ap, ret_ap, retK_ap, if_ap, ifK_ap, nil_ap, exp_ap, expK_ap, par_ap, parA_ap, parB_ap, asg_ap, asgK_ap, asgQ_ap, aug_ap, augQ_ap, augK_ap, augL_ap, raise_ap, newL_ap, newK_ap, app_ap, appQ_ap, appK_ap, appL_ap, frz_ap, frzQ_ap, tv_ap, an_ap, anK_ap, or_ap, orK_ap, no_ap, noK_ap, ty_ap, e1_ap, e1K_ap, e2_ap, e2K_ap, e2L_ap, v_ap, vQ_ap, c_ap, call_ap, callK_ap, eB_ap, eBK_ap, aC_ap, aCA_ap, aCB_ap, aN_ap, tup_ap, tupK_ap, lst_ap, lstK_ap, eIf_ap, eIfK_ap, eAn_ap, eAnK_ap, eOr_ap, eOrK_ap, okF_ap, eNo_ap, ch_ap, chA_ap, chB_ap, chC_ap, ixO_ap, ixQ_own, ixQ_bor, ixK_ap, ixL_own, ixL_bor, callO_ap, coQ_ap, coK_ap, coL_ap, tow_ok, iL_ap, iT_ap, iS_ap, iEnum_ap, enK_ap, iR_ap, sl_ap, slA_ap, slB_ap, slC_ap, gNo_ap, gSo_ap, gsK_ap, setAll, at_ok, at_exc, lf_some, chK_t, chK_f, to_ok, to_exc, blK_ap, bK_ap, nK_ap, flK_nx, flK_ret, lK_ap, uK_ap, f_nx, f_ret, f_exc, List.getElem?_cons_zero, List.getElem?_cons_succ, List.set_cons_zero, List.set_cons_succ, cond_true, cond_false, Bool.not_true, Bool.not_false, Bool.false_eq_true, if_false, is_whole_ok, e]
theorem after_ok (h : Sh R C) (hf : BD R C f) (n : Nat) (hn : n ≤ 100) : D_after [Bo R C f, .int n] = .ok (Bo R C (tn R C f n)) := by
  simp only [D_after, B_after, run1, run2, run3, run4, Nat.reduceSub, List.replicate_succ, List.replicate_zero, Nat.reduceAdd, seq_ap, set_ap, setK_ap, ret_ap, retK_ap, if_ap, ifK_ap, nil_ap, exp_ap, expK_ap, par_ap, parA_ap, parB_ap, asg_ap, asgK_ap, asgQ_ap, aug_ap, augQ_ap, augK_ap, augL_ap, raise_ap, newL_ap, newK_ap, app_ap, appQ_ap, appK_ap, appL_ap, frz_ap, frzQ_ap, tv_ap, an_ap, anK_ap, or_ap, orK_ap, no_ap, noK_ap, ty_ap, e1_ap, e1K_ap, e2_ap, e2K_ap, e2L_ap, v_ap, vQ_ap, c_ap, call_ap, callK_ap, eB_ap, eBK_ap, aC_ap, aCA_ap, aCB_ap, aN_ap, tup_ap, tupK_ap, lst_ap, lstK_ap, eIf_ap, eIfK_ap, eAn_ap, eAnK_ap, eOr_ap, eOrK_ap, okF_ap, eNo_ap, ch_ap, chA_ap, chB_ap, chC_ap, ixO_ap, ixQ_own, ixQ_bor, ixK_ap, ixL_own, ixL_bor, callO_ap, coQ_ap, coK_ap, coL_ap, tow_ok, iL_ap, iT_ap, iS_ap, iEnum_ap, enK_ap, iR_ap, sl_ap, slA_ap, slB_ap, slC_ap, gNo_ap, gSo_ap, gsK_ap, setAll, at_ok, at_exc, lf_some, chK_t, chK_f, to_ok, to_exc, blK_ap, bK_ap, nK_ap, flK_nx, flK_ret, lK_ap, uK_ap, f_nx, f_ret, f_exc, List.getElem?_cons_zero, List.getElem?_cons_succ, List.set_cons_zero, List.set_cons_succ, cond_true, cond_false, Bool.not_true, Bool.not_false, Bool.false_eq_true, if_false, needb_ok h hf.ok, needt_ok n hn, later_ok h n (by omega)]
/-- fate: the first tick t with what comes two ticks later -/
structure Fate (R C : Nat) (f : F2) (t : Nat) : Prop where
  two : tn R C f (t + 2) = tn R C f t
  fst : ∀ s < t, tn R C f (s + 2) ≠ tn R C f s
def perOf (R C : Nat) (f : F2) (t : Nat) : Nat := if D.eqv (Bo R C (tn R C f (t + 1))) (Bo R C (tn R C f t)) = true then 1 else 2
theorem fate_step (h : Sh R C) (hf : BD R C f) {t : Nat} (ht : Fate R C f t) {per : Nat} (hp : per = perOf R C f t) : ∀ k s m, t = s + k → k < m → ∀ s2, 
    fin0 (sWhile (tV (eC (.bl true))) (sSeq (sSet 2 (eCall D_ticked (aC (eV 0) aN)))
    (sSeq (sIf (tV (e2 opEq (eV 2) (eV 0))) (sRet (eTup (aC (eV 1) (aC (eC (.int 1)) aN)))) (sNil))
    (sSeq (sIf (tV (e2 opEq (eCall D_ticked (aC (eV 2) aN)) (eV 0))) (sRet (eTup (aC (eV 1) (aC (eC (.int 2)) aN)))) (sNil))
    (sPar 0 1 (eV 2) (e2 opAdd (eV 1) (eC (.int 1))))))) m [.dat (Bo R C (tn R C f s)), .dat (.int s), s2]) = .ok (.tup [.int t, .int per])
  | 0, s, m + 1, e, hm, s2 => by
    have e : t = s := e
    subst e
    have w2 : tick R C (tick R C (tn R C f t)) = tn R C f t := ht.two
    have w1 : tn R C f (t + 1) = tick R C (tn R C f t) := rfl
    unfold perOf at hp
    rw [w1] at hp
    by_cases h1 : Bo R C (tick R C (tn R C f t)) = Bo R C (tn R C f t)
    · rw [if_pos (eqB_t h1)] at hp
      subst hp
      simp only [wh_ap, whK_ap, whL_nx, whL_ret, seq_ap, set_ap, setK_ap, ret_ap, retK_ap, if_ap, ifK_ap, nil_ap, exp_ap, expK_ap, par_ap, parA_ap, parB_ap, asg_ap, asgK_ap, asgQ_ap, aug_ap, augQ_ap, augK_ap, augL_ap, raise_ap, newL_ap, newK_ap, app_ap, appQ_ap, appK_ap, appL_ap, frz_ap, frzQ_ap, tv_ap, an_ap, anK_ap, or_ap, orK_ap, no_ap, noK_ap, ty_ap, e1_ap, e1K_ap, e2_ap, e2K_ap, e2L_ap, v_ap, vQ_ap, c_ap, call_ap, callK_ap, eB_ap, eBK_ap, aC_ap, aCA_ap, aCB_ap, aN_ap, tup_ap, tupK_ap, lst_ap, lstK_ap, eIf_ap, eIfK_ap, eAn_ap, eAnK_ap, eOr_ap, eOrK_ap, okF_ap, eNo_ap, ch_ap, chA_ap, chB_ap, chC_ap, ixO_ap, ixQ_own, ixQ_bor, ixK_ap, ixL_own, ixL_bor, callO_ap, coQ_ap, coK_ap, coL_ap, tow_ok, iL_ap, iT_ap, iS_ap, iEnum_ap, enK_ap, iR_ap, sl_ap, slA_ap, slB_ap, slC_ap, gNo_ap, gSo_ap, gsK_ap, setAll, at_ok, at_exc, lf_some, chK_t, chK_f, to_ok, to_exc, blK_ap, bK_ap, nK_ap, flK_nx, flK_ret, lK_ap, uK_ap, f_nx, f_ret, f_exc, List.getElem?_cons_zero, List.getElem?_cons_succ, List.set_cons_zero, List.set_cons_succ, cond_true, cond_false, Bool.not_true, Bool.not_false, Bool.false_eq_true, if_false, if_true, ticked_ok h, eq_BB, eqB_t h1]
      rfl
    · rw [if_neg (by rw [eqB_f h1]; simp)] at hp
      subst hp
      simp only [wh_ap, whK_ap, whL_nx, whL_ret, seq_ap, set_ap, setK_ap, ret_ap, retK_ap, if_ap, ifK_ap, nil_ap, exp_ap, expK_ap, par_ap, parA_ap, parB_ap, asg_ap, asgK_ap, asgQ_ap, aug_ap, augQ_ap, augK_ap, augL_ap, raise_ap, newL_ap, newK_ap, app_ap, appQ_ap, appK_ap, appL_ap, frz_ap, frzQ_ap, tv_ap, an_ap, anK_ap, or_ap, orK_ap, no_ap, noK_ap, ty_ap, e1_ap, e1K_ap, e2_ap, e2K_ap, e2L_ap, v_ap, vQ_ap, c_ap, call_ap, callK_ap, eB_ap, eBK_ap, aC_ap, aCA_ap, aCB_ap, aN_ap, tup_ap, tupK_ap, lst_ap, lstK_ap, eIf_ap, eIfK_ap, eAn_ap, eAnK_ap, eOr_ap, eOrK_ap, okF_ap, eNo_ap, ch_ap, chA_ap, chB_ap, chC_ap, ixO_ap, ixQ_own, ixQ_bor, ixK_ap, ixL_own, ixL_bor, callO_ap, coQ_ap, coK_ap, coL_ap, tow_ok, iL_ap, iT_ap, iS_ap, iEnum_ap, enK_ap, iR_ap, sl_ap, slA_ap, slB_ap, slC_ap, gNo_ap, gSo_ap, gsK_ap, setAll, at_ok, at_exc, lf_some, chK_t, chK_f, to_ok, to_exc, blK_ap, bK_ap, nK_ap, flK_nx, flK_ret, lK_ap, uK_ap, f_nx, f_ret, f_exc, List.getElem?_cons_zero, List.getElem?_cons_succ, List.set_cons_zero, List.set_cons_succ, cond_true, cond_false, Bool.not_true, Bool.not_false, Bool.false_eq_true, if_false, if_true, ticked_ok h, eq_BB, eqB_f h1, w2, eqB_r]
      rfl
  | k + 1, s, m + 1, e, hm, s2 => by
    have hs := ht.fst s (by omega)
    have w2 : Bo R C (tick R C (tick R C (tn R C f s))) ≠ Bo R C (tn R C f s) := fun z => hs (bo_ext (tick_BD (tick_BD (tn_BD hf s))) (tn_BD hf s) z)
    have w1 : Bo R C (tick R C (tn R C f s)) ≠ Bo R C (tn R C f s) := fun z => hs (by
      have z' := bo_ext (tick_BD (tn_BD hf s)) (tn_BD hf s) z
      show tick R C (tick R C (tn R C f s)) = _
      rw [z', z'])
    have ih := fate_step h hf ht hp k (s + 1) m (by omega) (by omega) (.dat (Bo R C (tick R C (tn R C f s))))
    have z : ((s + 1 : Nat) : Int) = (s : Int) + 1 := by omega
    rw [z] at ih
    simp only [wh_ap, whK_ap, whL_nx, whL_ret, seq_ap, set_ap, setK_ap, ret_ap, retK_ap, if_ap, ifK_ap, nil_ap, exp_ap, expK_ap, par_ap, parA_ap, parB_ap, asg_ap, asgK_ap, asgQ_ap, aug_ap, augQ_ap, augK_ap, augL_ap, raise_ap, newL_ap, newK_ap, app_ap, appQ_ap, appK_ap, appL_ap, frz_ap, frzQ_ap, tv_ap, an_ap, anK_ap, or_ap, orK_ap, no_ap, noK_ap, ty_ap, e1_ap, e1K_ap, e2_ap, e2K_ap, e2L_ap, v_ap, vQ_ap, c_ap, call_ap, callK_ap, eB_ap, eBK_ap, aC_ap, aCA_ap, aCB_ap, aN_ap, tup_ap, tupK_ap, lst_ap, lstK_ap, eIf_ap, eIfK_ap, eAn_ap, eAnK_ap, eOr_ap, eOrK_ap, okF_ap, eNo_ap, ch_ap, chA_ap, chB_ap, chC_ap, ixO_ap, ixQ_own, ixQ_bor, ixK_ap, ixL_own, ixL_bor, callO_ap, coQ_ap, coK_ap, coL_ap, tow_ok, iL_ap, iT_ap, iS_ap, iEnum_ap, enK_ap, iR_ap, sl_ap, slA_ap, slB_ap, slC_ap, gNo_ap, gSo_ap, gsK_ap, setAll, at_ok, at_exc, lf_some, chK_t, chK_f, to_ok, to_exc, blK_ap, bK_ap, nK_ap, flK_nx, flK_ret, lK_ap, uK_ap, f_nx, f_ret, f_exc, List.getElem?_cons_zero, List.getElem?_cons_succ, List.set_cons_zero, List.set_cons_succ, cond_true, cond_false, Bool.not_true, Bool.not_false, Bool.false_eq_true, if_false, if_true, ticked_ok h, eq_BB, eqB_f w1, eqB_f w2, add_int]
    exact ih
theorem fateof_ok (h : Sh R C) (hf : BD R C f) {t : Nat} (ht : Fate R C f t) (hb : t < 1000) : D_fate_of [Bo R C f] = .ok (.tup [.int t, .int (perOf R C f t)]) := by
  simp only [D_fate_of, B_fate_of, run1, run2, run3, run4, Nat.reduceSub, List.replicate_succ, List.replicate_zero, Nat.reduceAdd, seq_ap, set_ap, setK_ap, ret_ap, retK_ap, if_ap, ifK_ap, nil_ap, exp_ap, expK_ap, par_ap, parA_ap, parB_ap, asg_ap, asgK_ap, asgQ_ap, aug_ap, augQ_ap, augK_ap, augL_ap, raise_ap, newL_ap, newK_ap, app_ap, appQ_ap, appK_ap, appL_ap, frz_ap, frzQ_ap, tv_ap, an_ap, anK_ap, or_ap, orK_ap, no_ap, noK_ap, ty_ap, e1_ap, e1K_ap, e2_ap, e2K_ap, e2L_ap, v_ap, vQ_ap, c_ap, call_ap, callK_ap, eB_ap, eBK_ap, aC_ap, aCA_ap, aCB_ap, aN_ap, tup_ap, tupK_ap, lst_ap, lstK_ap, eIf_ap, eIfK_ap, eAn_ap, eAnK_ap, eOr_ap, eOrK_ap, okF_ap, eNo_ap, ch_ap, chA_ap, chB_ap, chC_ap, ixO_ap, ixQ_own, ixQ_bor, ixK_ap, ixL_own, ixL_bor, callO_ap, coQ_ap, coK_ap, coL_ap, tow_ok, iL_ap, iT_ap, iS_ap, iEnum_ap, enK_ap, iR_ap, sl_ap, slA_ap, slB_ap, slC_ap, gNo_ap, gSo_ap, gsK_ap, setAll, at_ok, at_exc, lf_some, chK_t, chK_f, to_ok, to_exc, blK_ap, bK_ap, nK_ap, flK_nx, flK_ret, lK_ap, uK_ap, f_nx, f_ret, f_exc, List.getElem?_cons_zero, List.getElem?_cons_succ, List.set_cons_zero, List.set_cons_succ, cond_true, cond_false, Bool.not_true, Bool.not_false, Bool.false_eq_true, if_false]
  exact fate_step h hf ht rfl t 0 1000 (by omega) (by omega) .un
theorem fate_sure (h : Sh R C) (hf : BD R C f) : ∃ t, t ≤ 80 ∧ Fate R C f t := by
  obtain ⟨t, a, b, c⟩ := fate_ex hf
  exact ⟨t, Nat.le_trans a (eMax_le h), b, c⟩
end
end FB
namespace FB
/-! ### dice -/
theorem opMul_int {i j : Int} (h : mulOk i j = true) : opMul (.int i) (.int j) = some (.int (i * j)) := if_pos h
theorem opMod_int {i j : Int} (h : 0 < j) : opMod (.int i) (.int j) = some (.int (i % j)) := if_pos h
theorem opFdiv_int {i j : Int} (h : 0 < j ∧ j.natAbs.log2 < 9000) : opFdiv (.int i) (.int j) = some (.int (i / j)) := if_pos h
theorem mulOk_of {i j : Int} (hi : i.natAbs < 2 ^ 400) (hj : j.natAbs < 2 ^ 400) : mulOk i j = true := by
  unfold mulOk
  rw [Bool.or_eq_true, Bool.or_eq_true]
  refine .inr (.inr (Nat.ble_eq_true_of_le ?_))
  have l : ∀ n : Nat, n < 2 ^ 400 → n.log2 ≤ 400 := fun n hn => by
    by_cases h0 : n = 0
    · subst h0
      exact Nat.zero_le _
    · exact Nat.le_of_lt ((Nat.log2_lt h0).mpr hn)
  have := l _ hi
  have := l _ hj
  omega
theorem drawn_plain (c k : Int) : ∃ v : Int, D__law_drawn [.int c, .int k] = .ok (.int v) ∧ 0 ≤ v := by
  obtain ⟨m1, e1, a1, b1⟩ : ∃ m, m = (c * 6364136223846793005 + (k + 1) * 1442695040888963407) % 340282366920938463463374607431768211507 ∧ 0 ≤ m ∧ m < 340282366920938463463374607431768211507 := ⟨_, rfl, Int.emod_nonneg _ (by decide), Int.emod_lt_of_pos _ (by decide)⟩
  obtain ⟨m2, e2', a2, b2⟩ : ∃ m, m = m1 * m1 % 340282366920938463463374607431768211297 ∧ 0 ≤ m ∧ m < 340282366920938463463374607431768211297 := ⟨_, rfl, Int.emod_nonneg _ (by decide), Int.emod_lt_of_pos _ (by decide)⟩
  have hp : (2 : Nat) ^ 400 = 2582249878086908589655919172003011874329705792829223512830659356540647622016841194629645353280137831435903171972747493376 := by decide
  have g1 : mulOk m1 m1 = true := mulOk_of (by omega) (by omega)
  have q1 : 0 ≤ m2 % 18446744073709551557 := Int.emod_nonneg _ (by decide)
  have q2 : m2 % 18446744073709551557 < 18446744073709551557 := Int.emod_lt_of_pos _ (by decide)
  have q3 : 0 ≤ m2 / 18446744073709551557 := Int.ediv_nonneg a2 (by decide)
  have q4 : m2 / 18446744073709551557 ≤ m2 := Int.ediv_le_self _ a2
  have g2 : mulOk (m2 % 18446744073709551557 + 1) (m2 / 18446744073709551557 + 1) = true := mulOk_of (by omega) (by omega)
  have g3 : mulOk ((m2 % 18446744073709551557 + 1) * (m2 / 18446744073709551557 + 1)) m2 = true := by
    refine mulOk_of ?_ (by omega)
    rw [Int.natAbs_mul]
    have h1 : (m2 % 18446744073709551557 + 1).natAbs < 2 ^ 65 := by omega
    have h2 : (m2 / 18446744073709551557 + 1).natAbs < 2 ^ 130 := by omega
    exact Nat.lt_of_lt_of_le (Nat.mul_lt_mul'' h1 h2) (by decide)
  have G1 : ∀ x, opMul (.int x) (.int 6364136223846793005) = some (.int (x * 6364136223846793005)) := fun x => opMul_int rfl
  have G2 : ∀ x, opMul (.int x) (.int 1442695040888963407) = some (.int (x * 1442695040888963407)) := fun x => opMul_int rfl
  have M1 : ∀ x, opMod (.int x) (.int 340282366920938463463374607431768211507) = some (.int (x % 340282366920938463463374607431768211507)) := fun x => opMod_int (by decide)
  have M2 : ∀ x, opMod (.int x) (.int 340282366920938463463374607431768211297) = some (.int (x % 340282366920938463463374607431768211297)) := fun x => opMod_int (by decide)
  have M3 : ∀ x, opMod (.int x) (.int 18446744073709551557) = some (.int (x % 18446744073709551557)) := fun x => opMod_int (by decide)
  have F1 : ∀ x, opFdiv (.int x) (.int 18446744073709551557) = some (.int (x / 18446744073709551557)) := fun x => opFdiv_int (by decide)
  have A1 : ∀ x y, opAdd (.int x) (.int y) = some (.int (x + y)) := fun x y => rfl
  refine ⟨(m2 % 18446744073709551557 + 1) * (m2 / 18446744073709551557 + 1) * m2 % 340282366920938463463374607431768211507, ?_, Int.emod_nonneg _ (by decide)⟩
  have t1 := opMul_int g1
  have t2 := opMul_int g2
  have t3 := opMul_int g3
  subst e1
  subst e2'
  simp [D__law_drawn, runD, B__law_drawn, startE, sSeq, sSet, sRet, e2, eV, eC, R.andThen, R.lift, G1, G2, M1, M2, M3, F1, A1, fin0, t1, t2, t3]
theorem roll_plain (c k many : Int) (h1 : 1 ≤ many) (h2 : many ≤ 1000) : ∃ v c' k' : Int, D__law_roll [.int c, .int k] [.int many] = .ok (.int v) [.int c', .int k'] ∧ 0 ≤ v ∧ v < many := by
  have M1 : ∀ x, opMod (.int x) (.int many) = some (.int (x % many)) := fun x => opMod_int (by omega)
  have F1 : ∀ x, opFdiv (.int x) (.int many) = some (.int (x / many)) := fun x => opFdiv_int ⟨by omega, by
    refine Nat.lt_of_le_of_lt (Nat.log2_le_self _) (by omega)⟩
  have F2 : ∀ x, opFdiv (.int x) (.int 8) = some (.int (x / 8)) := fun x => opFdiv_int (by decide)
  have P1 : opPow (.int 10) (.int 18) = some (.int 1000000000000000000) := rfl
  have A1 : ∀ x y, opAdd (.int x) (.int y) = some (.int (x + y)) := fun x y => rfl
  by_cases h : (1000000000000000000 : Int) ≤ c
  · have G1 : opGe (.int c) (.int 1000000000000000000) = some (.bl true) := by
      show some (D.bl (decide _)) = _
      rw [decide_eq_true h]
    refine ⟨c % many, c / many, k, ?_, Int.emod_nonneg _ (by omega), Int.emod_lt_of_pos _ (by omega)⟩
    simp [D__law_roll, runO, B__law_roll, startE, sSeq, sSet, sRet, sIf, sPut, sNil, tV, e2, eV, eC, eIxO, notOwn, atD, R.andThen, R.lift, G1, M1, F1, P1, finO]
  · have G1 : opGe (.int c) (.int 1000000000000000000) = some (.bl false) := by
      show some (D.bl (decide _)) = _
      rw [decide_eq_false h]
    obtain ⟨v, e, hv⟩ := drawn_plain c (k + 1)
    refine ⟨v / 8 % many, c, k + 1, ?_, Int.emod_nonneg _ (by omega), Int.emod_lt_of_pos _ (by omega)⟩
    simp [D__law_roll, runO, B__law_roll, startE, sSeq, sSet, sRet, sIf, sPut, sNil, tV, e2, eV, eC, eIxO, eCall, aC, aN, notOwn, atD, R.andThen, R.lift, G1, M1, F1, F2, P1, A1, finO, e]
theorem roll_nat (c k : Int) (many : Nat) (h1 : 1 ≤ many) (h2 : many ≤ 1000) : ∃ (v : Nat) (c' k' : Int), D__law_roll [.int c, .int k] [.int many] = .ok (.int v) [.int c', .int k'] ∧ v < many := by
  obtain ⟨v, c', k', a, b, d⟩ := roll_plain c k many (by omega) (by omega)
  exact ⟨v.toNat, c', k', by rw [Int.toNat_of_nonneg b]; exact a, by omega⟩
inductive All2 {α β : Type} (Q : α → β → Prop) : List α → List β → Prop
  | nil : All2 Q [] []
  | cons {a b l m} : Q a b → All2 Q l m → All2 Q (a :: l) (b :: m)
theorem lcGo_dice {α : Type} {tt : M Bool} {te : M D} {v : Nat} (E : Int → Int → Sl → En) (e : α → D) (Q : α → Option D → Prop)
    (hE : ∀ c k s d, (E c k s).set v d = E c k d) : ∀ (l : List α) (acc : List D) (c k : Int),
    (∀ x ∈ l, ∀ c k, ∃ c' k', (Q x none ∧ tt (E c k (.dat (e x))) = .ok false (E c' k' (.dat (e x)))) ∨ ∃ y c1 k1, Q x (some y) ∧ tt (E c k (.dat (e x))) = .ok true (E c1 k1 (.dat (e x))) ∧ te (E c1 k1 (.dat (e x))) = .ok y (E c' k' (.dat (e x)))) →
    ∃ os c' k', All2 Q l os ∧ lcGo (gN v) tt te [v] (l.map e) acc (E c k .un) = .ok (acc ++ os.filterMap id) (E c' k' .un)
  | [], acc, c, k, _ => ⟨[], c, k, .nil, by simp [lcGo]⟩
  | x :: l, acc, c, k, H => by
    obtain ⟨c', k', h⟩ := H x List.mem_cons_self c k
    have w : ∀ c k s, wipeE [v] (E c k s) = E c k .un := fun c k s => hE c k s .un
    have g : gN v (e x) (E c k .un) = some (E c k (.dat (e x))) := by
      show some ((E c k .un).set v _) = _
      rw [hE]
    rcases h with ⟨q, h1⟩ | ⟨y, c1, k1, q, h1, h2⟩
    · obtain ⟨os, c2, k2, a, b⟩ := lcGo_dice E e Q hE l acc c' k' fun y hy => H y (List.mem_cons_of_mem _ hy)
      refine ⟨none :: os, c2, k2, .cons q a, ?_⟩
      rw [List.map_cons, lcGo, g]
      dsimp only
      rw [h1, at_ok, if_neg (by simp), w, b]
      rfl
    · obtain ⟨os, c2, k2, a, b⟩ := lcGo_dice E e Q hE l (acc ++ [y]) c' k' fun y hy => H y (List.mem_cons_of_mem _ hy)
      refine ⟨some y :: os, c2, k2, .cons q a, ?_⟩
      rw [List.map_cons, lcGo, g]
      dsimp only
      rw [h1, at_ok, if_pos rfl, h2, at_ok, w, b]
      simp
theorem lc_dice {α : Type} {it : M (List D)} {tt : M Bool} {te : M D} {v : Nat} (E : Int → Int → Sl → En) (e : α → D) (Q : α → Option D → Prop)
    (hE : ∀ c k s d, (E c k s).set v d = E c k d) (hG : ∀ c k s, (E c k s)[v]? = some s) (l : List α) (c k : Int) (s0 : Sl) (hs : notOwn (some s0) = true) (hl : l.length ≤ lim) (hi : it (E c k s0) = .ok (l.map e) (E c k s0))
    (H : ∀ x ∈ l, ∀ c k, ∃ c' k', (Q x none ∧ tt (E c k (.dat (e x))) = .ok false (E c' k' (.dat (e x)))) ∨ ∃ y c1 k1, Q x (some y) ∧ tt (E c k (.dat (e x))) = .ok true (E c1 k1 (.dat (e x))) ∧ te (E c1 k1 (.dat (e x))) = .ok y (E c' k' (.dat (e x)))) :
    ∃ os c' k', All2 Q l os ∧ eLc it (gN v) tt te [v] (E c k s0) = .ok (.lst (os.filterMap id)) (E c' k' s0) := by
  obtain ⟨os, c', k', a, b⟩ := lcGo_dice E e Q hE l [] c k H
  refine ⟨os, c', k', a, ?_⟩
  unfold eLc
  rw [hi, at_ok, if_pos ⟨by simp [hG, hs], by simpa using hl⟩]
  have w : wipeE [v] (E c k s0) = E c k .un := hE c k s0 .un
  rw [w, b]
  show R.ok _ ((E c' k' .un).set v ((E c k s0).getD v .un)) = _
  rw [List.getD, hG, hE]
  rfl
end FB
namespace FB
/-! ### drawn boards -/
theorem mulS {a b : Int} (h1 : 0 ≤ a) (h2 : a ≤ 1000) (h3 : 0 ≤ b) (h4 : b ≤ 1000) : opMul (.int a) (.int b) = some (.int (a * b)) := if_pos (by
  unfold mulOk
  have : Nat.ble b.natAbs.log2 62 = true := by
    refine Nat.ble_eq_true_of_le ?_
    have : b.natAbs < 2 ^ 10 := by omega
    by_cases h0 : b.natAbs = 0
    · rw [h0]
      decide
    · have := (Nat.log2_lt h0).mpr this
      omega
  rw [this]
  rfl)
/-- the loop that makes a board small enough -/
theorem small_ok (m : Nat) (hm : 1 ≤ m) (d s4 s5 s6 s7 : Sl) : ∀ (n a b : Nat), 1 ≤ a → a ≤ 4 → 1 ≤ b → b ≤ 4 → a + b < n → ∃ a' b', 1 ≤ a' ∧ a' ≤ 4 ∧ 1 ≤ b' ∧ b' ≤ 4 ∧ a' * b' ≤ m ∧
    sWhile (tV (e2 opGt (e2 opMul (eV 2) (eV 3)) (eV 1))) (sAsg (gT [2, 3]) (eIf (tV (e2 opGe (eV 2) (eV 3))) (eTup (aC (e2 opSub (eV 2) (eC (.int 1))) (aC (eV 3) aN))) (eTup (aC (eV 2) (aC (e2 opSub (eV 3) (eC (.int 1))) aN))))) n [d, .dat (.int m), .dat (.int a), .dat (.int b), s4, s5, s6, s7] =
      .ok .nx [d, .dat (.int m), .dat (.int a'), .dat (.int b'), s4, s5, s6, s7]
  | 0, a, b, _, _, _, _, h => by omega
  | n + 1, a, b, a1, a4, b1, b4, h => by
    have e0 : opMul (.int a) (.int b) = some (.int (a * b)) := mulS (by omega) (by omega) (by omega) (by omega)
    by_cases hab : a * b ≤ m
    · have e1 : decide ((m : Int) < (a : Int) * (b : Int)) = false := by
        rw [decide_eq_false_iff_not, ← Int.natCast_mul]
        omega
      refine ⟨a, b, a1, a4, b1, b4, hab, ?_⟩
      simp only [wh_ap, whK_ap, whL_nx, whL_ret, seq_ap, set_ap, setK_ap, ret_ap, retK_ap, if_ap, ifK_ap, nil_ap, exp_ap, expK_ap, par_ap, parA_ap, parB_ap, asg_ap, asgK_ap, asgQ_ap, aug_ap, augQ_ap, augK_ap, augL_ap, raise_ap, newL_ap, newK_ap, app_ap, appQ_ap, appK_ap, appL_ap, frz_ap, frzQ_ap, tv_ap, an_ap, anK_ap, or_ap, orK_ap, no_ap, noK_ap, ty_ap, e1_ap, e1K_ap, e2_ap, e2K_ap, e2L_ap, v_ap, vQ_ap, c_ap, call_ap, callK_ap, eB_ap, eBK_ap, aC_ap, aCA_ap, aCB_ap, aN_ap, tup_ap, tupK_ap, lst_ap, lstK_ap, eIf_ap, eIfK_ap, eAn_ap, eAnK_ap, eOr_ap, eOrK_ap, okF_ap, eNo_ap, ch_ap, chA_ap, chB_ap, chC_ap, ixO_ap, ixQ_own, ixQ_bor, ixK_ap, ixL_own, ixL_bor, callO_ap, coQ_ap, coK_ap, coL_ap, tow_ok, iL_ap, iT_ap, iS_ap, iEnum_ap, enK_ap, iR_ap, sl_ap, slA_ap, slB_ap, slC_ap, gNo_ap, gSo_ap, gsK_ap, setAll, at_ok, at_exc, lf_some, chK_t, chK_f, to_ok, to_exc, blK_ap, bK_ap, nK_ap, flK_nx, flK_ret, lK_ap, uK_ap, f_nx, f_ret, f_exc, List.getElem?_cons_zero, List.getElem?_cons_succ, List.set_cons_zero, List.set_cons_succ, cond_true, cond_false, Bool.not_true, Bool.not_false, Bool.false_eq_true, if_false, e0, gt_int, e1]
    · have e1 : decide ((m : Int) < (a : Int) * (b : Int)) = true := by
        rw [decide_eq_true_eq, ← Int.natCast_mul]
        omega
      by_cases hg : b ≤ a
      · have e2 : decide ((b : Int) ≤ a) = true := by rw [decide_eq_true_eq]; omega
        have ha : 2 ≤ a := by
          apply Classical.byContradiction
          intro hn
          have : a = 1 := by omega
          subst this
          have : b = 1 := by omega
          subst this
          omega
        obtain ⟨a', b', p1, p2, p3, p4, p5, p6⟩ := small_ok m hm d s4 s5 s6 s7 n (a - 1) b (by omega) (by omega) b1 b4 (by omega)
        refine ⟨a', b', p1, p2, p3, p4, p5, ?_⟩
        have z : ((a - 1 : Nat) : Int) = (a : Int) - 1 := by omega
        rw [z] at p6
        simp only [wh_ap, whK_ap, whL_nx, whL_ret, seq_ap, set_ap, setK_ap, ret_ap, retK_ap, if_ap, ifK_ap, nil_ap, exp_ap, expK_ap, par_ap, parA_ap, parB_ap, asg_ap, asgK_ap, asgQ_ap, aug_ap, augQ_ap, augK_ap, augL_ap, raise_ap, newL_ap, newK_ap, app_ap, appQ_ap, appK_ap, appL_ap, frz_ap, frzQ_ap, tv_ap, an_ap, anK_ap, or_ap, orK_ap, no_ap, noK_ap, ty_ap, e1_ap, e1K_ap, e2_ap, e2K_ap, e2L_ap, v_ap, vQ_ap, c_ap, call_ap, callK_ap, eB_ap, eBK_ap, aC_ap, aCA_ap, aCB_ap, aN_ap, tup_ap, tupK_ap, lst_ap, lstK_ap, eIf_ap, eIfK_ap, eAn_ap, eAnK_ap, eOr_ap, eOrK_ap, okF_ap, eNo_ap, ch_ap, chA_ap, chB_ap, chC_ap, ixO_ap, ixQ_own, ixQ_bor, ixK_ap, ixL_own, ixL_bor, callO_ap, coQ_ap, coK_ap, coL_ap, tow_ok, iL_ap, iT_ap, iS_ap, iEnum_ap, enK_ap, iR_ap, sl_ap, slA_ap, slB_ap, slC_ap, gNo_ap, gSo_ap, gsK_ap, setAll, at_ok, at_exc, lf_some, chK_t, chK_f, to_ok, to_exc, blK_ap, bK_ap, nK_ap, flK_nx, flK_ret, lK_ap, uK_ap, f_nx, f_ret, f_exc, List.getElem?_cons_zero, List.getElem?_cons_succ, List.set_cons_zero, List.set_cons_succ, cond_true, cond_false, Bool.not_true, Bool.not_false, Bool.false_eq_true, if_false, e0, gt_int, e1, ge_int, e2, if_true, sub_int, gT, List.length_cons, List.length_nil]
        exact p6
      · have e2 : decide ((b : Int) ≤ a) = false := by rw [decide_eq_false_iff_not]; omega
        obtain ⟨a', b', p1, p2, p3, p4, p5, p6⟩ := small_ok m hm d s4 s5 s6 s7 n a (b - 1) a1 a4 (by omega) (by omega) (by omega)
        refine ⟨a', b', p1, p2, p3, p4, p5, ?_⟩
        have z : ((b - 1 : Nat) : Int) = (b : Int) - 1 := by omega
        rw [z] at p6
        simp only [wh_ap, whK_ap, whL_nx, whL_ret, seq_ap, set_ap, setK_ap, ret_ap, retK_ap, if_ap, ifK_ap, nil_ap, exp_ap, expK_ap, par_ap, parA_ap, parB_ap, asg_ap, asgK_ap, asgQ_ap, aug_ap, augQ_ap, augK_ap, augL_ap, raise_ap, newL_ap, newK_ap, app_ap, appQ_ap, appK_ap, appL_ap, frz_ap, frzQ_ap, tv_ap, an_ap, anK_ap, or_ap, orK_ap, no_ap, noK_ap, ty_ap, e1_ap, e1K_ap, e2_ap, e2K_ap, e2L_ap, v_ap, vQ_ap, c_ap, call_ap, callK_ap, eB_ap, eBK_ap, aC_ap, aCA_ap, aCB_ap, aN_ap, tup_ap, tupK_ap, lst_ap, lstK_ap, eIf_ap, eIfK_ap, eAn_ap, eAnK_ap, eOr_ap, eOrK_ap, okF_ap, eNo_ap, ch_ap, chA_ap, chB_ap, chC_ap, ixO_ap, ixQ_own, ixQ_bor, ixK_ap, ixL_own, ixL_bor, callO_ap, coQ_ap, coK_ap, coL_ap, tow_ok, iL_ap, iT_ap, iS_ap, iEnum_ap, enK_ap, iR_ap, sl_ap, slA_ap, slB_ap, slC_ap, gNo_ap, gSo_ap, gsK_ap, setAll, at_ok, at_exc, lf_some, chK_t, chK_f, to_ok, to_exc, blK_ap, bK_ap, nK_ap, flK_nx, flK_ret, lK_ap, uK_ap, f_nx, f_ret, f_exc, List.getElem?_cons_zero, List.getElem?_cons_succ, List.set_cons_zero, List.set_cons_succ, cond_true, cond_false, Bool.not_true, Bool.not_false, Bool.false_eq_true, if_false, e0, gt_int, e1, ge_int, e2, if_true, sub_int, gT, List.length_cons, List.length_nil]
        exact p6
def sgns (v : Nat) : List Nat := ([[35, 46], [35, 46, 35, 46, 35, 46, 42], [35, 46, 35, 46, 35, 46, 35, 46, 42, 111], [35, 35, 46], [35, 46, 46]] : List (List Nat)).getD v []
theorem sgns_ok {v : Nat} (h : v < 5) : 1 ≤ (sgns v).length ∧ (sgns v).length ≤ 10 ∧ ((sgns v).all okS) = true := by
  have : v = 0 ∨ v = 1 ∨ v = 2 ∨ v = 3 ∨ v = 4 := by omega
  rcases this with rfl | rfl | rfl | rfl | rfl <;> decide
/-- a row of rolled signs -/
theorem row_roll (sg : List Nat) (h1 : 1 ≤ sg.length) (h2 : sg.length ≤ 10) (C : Nat) (hC : C ≤ 4) (m a : D) (s5 s6 s7 : Sl) (hs : notOwn (some s7) = true) (c k : Int) : ∃ (g : Nat → Nat) (c' k' : Int), (∀ j, g j ∈ sg ∨ g j = 46) ∧
    eLc (iRange1 (aC (eV 3) aN)) (gN 7) tY (e2 opIx (eV 4) (eCallO D__law_roll 0 (aC (eB bLen (aC (eV 4) aN)) aN))) [7] [.bor [.int c, .int k], .dat m, .dat a, .dat (.int C), .dat (.str sg), s5, s6, s7] =
      .ok (.lst ((List.range C).map fun j => .str [g j])) [.bor [.int c', .int k'], .dat m, .dat a, .dat (.int C), .dat (.str sg), s5, s6, s7] := by
  obtain ⟨os, c', k', q1, q2⟩ := lc_dice (it := iRange1 (aC (eV 3) aN)) (tt := tY) (te := e2 opIx (eV 4) (eCallO D__law_roll 0 (aC (eB bLen (aC (eV 4) aN)) aN))) (v := 7) (fun c k s => [.bor [.int c, .int k], .dat m, .dat a, .dat (.int C), .dat (.str sg), s5, s6, s])
    (fun j : Nat => .int j) (fun _ o => ∃ ch ∈ sg, o = some (.str [ch])) (fun _ _ _ _ => rfl) (fun _ _ _ => rfl) (List.range C) c k s7 hs (by simp [lim]; omega) (by simp only [seq_ap, set_ap, setK_ap, ret_ap, retK_ap, if_ap, ifK_ap, nil_ap, exp_ap, expK_ap, par_ap, parA_ap, parB_ap, asg_ap, asgK_ap, asgQ_ap, aug_ap, augQ_ap, augK_ap, augL_ap, raise_ap, newL_ap, newK_ap, app_ap, appQ_ap, appK_ap, appL_ap, frz_ap, frzQ_ap, tv_ap, an_ap, anK_ap, or_ap, orK_ap, no_ap, noK_ap, ty_ap, e1_ap, e1K_ap, e2_ap, e2K_ap, e2L_ap, v_ap, vQ_ap, c_ap, call_ap, callK_ap, eB_ap, eBK_ap, aC_ap, aCA_ap, aCB_ap, aN_ap, tup_ap, tupK_ap, lst_ap, lstK_ap, eIf_ap, eIfK_ap, eAn_ap, eAnK_ap, eOr_ap, eOrK_ap, okF_ap, eNo_ap, ch_ap, chA_ap, chB_ap, chC_ap, ixO_ap, ixQ_own, ixQ_bor, ixK_ap, ixL_own, ixL_bor, callO_ap, coQ_ap, coK_ap, coL_ap, tow_ok, iL_ap, iT_ap, iS_ap, iEnum_ap, enK_ap, iR_ap, sl_ap, slA_ap, slB_ap, slC_ap, gNo_ap, gSo_ap, gsK_ap, setAll, at_ok, at_exc, lf_some, chK_t, chK_f, to_ok, to_exc, blK_ap, bK_ap, nK_ap, flK_nx, flK_ret, lK_ap, uK_ap, f_nx, f_ret, f_exc, List.getElem?_cons_zero, List.getElem?_cons_succ, List.set_cons_zero, List.set_cons_succ, cond_true, cond_false, Bool.not_true, Bool.not_false, Bool.false_eq_true, if_false, rgK_nat (show C ≤ 100000 by omega)]) (by
      intro x hx c k
      obtain ⟨v, c', k', e, hv⟩ := roll_nat c k sg.length h1 (by omega)
      refine ⟨c', k', .inr ⟨.str [sg[v]], c, k, ⟨_, List.getElem_mem hv, rfl⟩, rfl, ?_⟩⟩
      have e3 : opIx (.str sg) (.int v) = some (.str [sg[v]]) := by
        show Option.map _ (atD _ _) = _
        rw [atD_nat, List.getElem?_eq_getElem hv]
        rfl
      simp only [seq_ap, set_ap, setK_ap, ret_ap, retK_ap, if_ap, ifK_ap, nil_ap, exp_ap, expK_ap, par_ap, parA_ap, parB_ap, asg_ap, asgK_ap, asgQ_ap, aug_ap, augQ_ap, augK_ap, augL_ap, raise_ap, newL_ap, newK_ap, app_ap, appQ_ap, appK_ap, appL_ap, frz_ap, frzQ_ap, tv_ap, an_ap, anK_ap, or_ap, orK_ap, no_ap, noK_ap, ty_ap, e1_ap, e1K_ap, e2_ap, e2K_ap, e2L_ap, v_ap, vQ_ap, c_ap, call_ap, callK_ap, eB_ap, eBK_ap, aC_ap, aCA_ap, aCB_ap, aN_ap, tup_ap, tupK_ap, lst_ap, lstK_ap, eIf_ap, eIfK_ap, eAn_ap, eAnK_ap, eOr_ap, eOrK_ap, okF_ap, eNo_ap, ch_ap, chA_ap, chB_ap, chC_ap, ixO_ap, ixQ_own, ixQ_bor, ixK_ap, ixL_own, ixL_bor, callO_ap, coQ_ap, coK_ap, coL_ap, tow_ok, iL_ap, iT_ap, iS_ap, iEnum_ap, enK_ap, iR_ap, sl_ap, slA_ap, slB_ap, slC_ap, gNo_ap, gSo_ap, gsK_ap, setAll, at_ok, at_exc, lf_some, chK_t, chK_f, to_ok, to_exc, blK_ap, bK_ap, nK_ap, flK_nx, flK_ret, lK_ap, uK_ap, f_nx, f_ret, f_exc, List.getElem?_cons_zero, List.getElem?_cons_succ, List.set_cons_zero, List.set_cons_succ, cond_true, cond_false, Bool.not_true, Bool.not_false, Bool.false_eq_true, if_false, callO_ap, bLen, e, e3])
  -- the signs as a function
  have key : ∀ (l : List Nat) (os : List (Option D)), All2 (fun _ o => ∃ ch ∈ sg, o = some (D.str [ch])) l os → ∃ ws : List Nat, ws.length = l.length ∧ (∀ w ∈ ws, w ∈ sg) ∧ os.filterMap id = ws.map fun w => .str [w] := by
    intro l os h
    induction h with
    | nil => exact ⟨[], rfl, by simp, rfl⟩
    | cons hab _ ih =>
      obtain ⟨ch, hc, rfl⟩ := hab
      obtain ⟨ws, w1, w2, w3⟩ := ih
      refine ⟨ch :: ws, by simp [w1], ?_, ?_⟩
      · intro w hw
        rcases List.mem_cons.mp hw with rfl | hw
        · exact hc
        · exact w2 w hw
      · simp [w3]
  obtain ⟨ws, w1, w2, w3⟩ := key _ _ q1
  rw [List.length_range] at w1
  refine ⟨fun j => ws.getD j 46, c', k', ?_, ?_⟩
  · intro j
    by_cases hj : j < ws.length
    · left
      show ws.getD j 46 ∈ sg
      rw [List.getD_eq_getElem?_getD, List.getElem?_eq_getElem hj]
      exact w2 _ (List.getElem_mem hj)
    · right
      show ws.getD j 46 = 46
      rw [List.getD_eq_getElem?_getD, List.getElem?_eq_none (by omega)]
      rfl
  · have e : ((List.range C).map fun j => D.str [ws.getD j 46]) = os.filterMap id := by
      rw [w3]
      apply List.ext_getElem
      · simp [w1]
      · intro i h1 h2
        have : i < ws.length := by simpa using h2
        simp [this]
    rw [e]
    exact q2
theorem any_board_ok (c k : Int) (m : Nat) (hm : 1 ≤ m) (hm2 : m ≤ 12) : ∃ (R C : Nat) (f : F2) (c' k' : Int), Sh R C ∧ R * C ≤ m ∧ BD R C f ∧ D__law_any_board [.int c, .int k] [.int m] = .ok (Bo R C f) [.int c', .int k'] := by
  obtain ⟨v1, c1, k1, e1, h1⟩ := roll_nat c k 4 (by omega) (by omega)
  obtain ⟨v2, c2, k2, e2', h2⟩ := roll_nat c1 k1 4 (by omega) (by omega)
  obtain ⟨R, C, p1, p2, p3, p4, p5, p6⟩ := small_ok m hm (.bor [.int c2, .int k2]) .un .un .un .un 1000 (1 + v1) (1 + v2) (by omega) (by omega) (by omega) (by omega) (by omega)
  obtain ⟨v3, c3, k3, e3, h3⟩ := roll_nat c2 k2 5 (by omega) (by omega)
  obtain ⟨g1, g2, g3⟩ := sgns_ok h3
  have hS : Sh R C := ⟨p1, p2, p3, p4, by omega⟩
  -- the rows
  have key : ∀ (r : FB.R Fl → Prop), (∀ (f : F2) (c' k' : Int) (s6 : Sl), (∀ i j, f i j ∈ sgns v3 ∨ f i j = 46) → r (.ok .nx [.bor [.int c', .int k'], .dat (.int m), .dat (.int R), .dat (.int C), .dat (.str (sgns v3)), .own ((List.range R).map fun i => .str (row C (f i))), s6, .un])) →
      r (sFor (iRange1 (aC (eV 2) aN)) (gN 6) (sApp 5 (FB.e1 (mJoin (.str [])) (eLc (iRange1 (aC (eV 3) aN)) (gN 7) tY (e2 opIx (eV 4) (eCallO D__law_roll 0 (aC (eB bLen (aC (eV 4) aN)) aN))) [7]))) [.bor [.int c3, .int k3], .dat (.int m), .dat (.int R), .dat (.int C), .dat (.str (sgns v3)), .own [], .un, .un]) := by
    intro r H
    refine for_end (P := r) (List.range R) (fun i => .int (i : Nat)) [.bor [.int c3, .int k3], .dat (.int m), .dat (.int R), .dat (.int C), .dat (.str (sgns v3)), .own [], .un, .un]
      (fun p r => ∃ (f : F2) (c' k' : Int) (s6 : Sl), (∀ i j, f i j ∈ sgns v3 ∨ f i j = 46) ∧ notOwn (some s6) = true ∧ r = [.bor [.int c', .int k'], .dat (.int m), .dat (.int R), .dat (.int C), .dat (.str (sgns v3)), .own (p.map fun i => .str (row C (f i))), s6, .un]) ?_ ⟨fun _ _ => 46, c3, k3, .un, fun _ _ => .inr rfl, rfl, rfl⟩ ?_ ?_
    · simp only [seq_ap, set_ap, setK_ap, ret_ap, retK_ap, if_ap, ifK_ap, nil_ap, exp_ap, expK_ap, par_ap, parA_ap, parB_ap, asg_ap, asgK_ap, asgQ_ap, aug_ap, augQ_ap, augK_ap, augL_ap, raise_ap, newL_ap, newK_ap, app_ap, appQ_ap, appK_ap, appL_ap, frz_ap, frzQ_ap, tv_ap, an_ap, anK_ap, or_ap, orK_ap, no_ap, noK_ap, ty_ap, e1_ap, e1K_ap, e2_ap, e2K_ap, e2L_ap, v_ap, vQ_ap, c_ap, call_ap, callK_ap, eB_ap, eBK_ap, aC_ap, aCA_ap, aCB_ap, aN_ap, tup_ap, tupK_ap, lst_ap, lstK_ap, eIf_ap, eIfK_ap, eAn_ap, eAnK_ap, eOr_ap, eOrK_ap, okF_ap, eNo_ap, ch_ap, chA_ap, chB_ap, chC_ap, ixO_ap, ixQ_own, ixQ_bor, ixK_ap, ixL_own, ixL_bor, callO_ap, coQ_ap, coK_ap, coL_ap, tow_ok, iL_ap, iT_ap, iS_ap, iEnum_ap, enK_ap, iR_ap, sl_ap, slA_ap, slB_ap, slC_ap, gNo_ap, gSo_ap, gsK_ap, setAll, at_ok, at_exc, lf_some, chK_t, chK_f, to_ok, to_exc, blK_ap, bK_ap, nK_ap, flK_nx, flK_ret, lK_ap, uK_ap, f_nx, f_ret, f_exc, List.getElem?_cons_zero, List.getElem?_cons_succ, List.set_cons_zero, List.set_cons_succ, cond_true, cond_false, Bool.not_true, Bool.not_false, Bool.false_eq_true, if_false, rgK_nat (show R ≤ 100000 by omega)]
    · rintro p i hp r ⟨f, c', k', s6, hf, hs6, rfl⟩
      obtain ⟨hi, rfl⟩ := pre_len hp
      refine ⟨_, rfl, ?_⟩
      obtain ⟨g, c4, k4, q1, q2⟩ := row_roll (sgns v3) g1 g2 C p4 (.int m) (.int R) (.own ((List.range i).map fun i => .str (row C (f i)))) (.dat (.int i)) .un rfl c' k'
      have l1 : ((List.range i).map fun i => D.str (row C (f i))).length < lim := by simp [lim]; omega
      simp only [gN, seq_ap, set_ap, setK_ap, ret_ap, retK_ap, if_ap, ifK_ap, nil_ap, exp_ap, expK_ap, par_ap, parA_ap, parB_ap, asg_ap, asgK_ap, asgQ_ap, aug_ap, augQ_ap, augK_ap, augL_ap, raise_ap, newL_ap, newK_ap, app_ap, appQ_ap, appK_ap, appL_ap, frz_ap, frzQ_ap, tv_ap, an_ap, anK_ap, or_ap, orK_ap, no_ap, noK_ap, ty_ap, e1_ap, e1K_ap, e2_ap, e2K_ap, e2L_ap, v_ap, vQ_ap, c_ap, call_ap, callK_ap, eB_ap, eBK_ap, aC_ap, aCA_ap, aCB_ap, aN_ap, tup_ap, tupK_ap, lst_ap, lstK_ap, eIf_ap, eIfK_ap, eAn_ap, eAnK_ap, eOr_ap, eOrK_ap, okF_ap, eNo_ap, ch_ap, chA_ap, chB_ap, chC_ap, ixO_ap, ixQ_own, ixQ_bor, ixK_ap, ixL_own, ixL_bor, callO_ap, coQ_ap, coK_ap, coL_ap, tow_ok, iL_ap, iT_ap, iS_ap, iEnum_ap, enK_ap, iR_ap, sl_ap, slA_ap, slB_ap, slC_ap, gNo_ap, gSo_ap, gsK_ap, setAll, at_ok, at_exc, lf_some, chK_t, chK_f, to_ok, to_exc, blK_ap, bK_ap, nK_ap, flK_nx, flK_ret, lK_ap, uK_ap, f_nx, f_ret, f_exc, List.getElem?_cons_zero, List.getElem?_cons_succ, List.set_cons_zero, List.set_cons_succ, cond_true, cond_false, Bool.not_true, Bool.not_false, Bool.false_eq_true, if_false, q2, join_row (g := g) C (by omega), if_pos l1]
      refine nx_ok ⟨fun a b => if a = i then g b else f a b, c4, k4, .dat (.int i), ?_, rfl, ?_⟩
      · intro a b
        by_cases ha : a = i
        · simp only [ha, if_true]
          exact q1 b
        · simp only [ha, if_false]
          exact hf a b
      · have e : (List.map (fun i_1 => D.str (row C (fun b => if i_1 = i then g b else f i_1 b))) (List.range i ++ [i])) = (List.map (fun i => D.str (row C (f i))) (List.range i)) ++ [D.str (row C g)] := by
          rw [List.map_append]
          congr 1
          · apply List.map_congr_left
            intro a ha
            have : a ≠ i := by have := List.mem_range.mp ha; omega
            simp [this]
          · simp
        rw [e]
    · rintro r' ⟨f, c', k', s6, hf, _, rfl⟩
      exact H f c' k' s6 hf
  -- the whole
  have fin : ∀ (f : F2) (c' k' : Int), (∀ i j, f i j ∈ sgns v3 ∨ f i j = 46) → ∃ g : F2, BD R C g ∧ Bo R C f = Bo R C g := by
    intro f c' k' hf
    refine ⟨fun i j => if i < R ∧ j < C then f i j else 46, ⟨?_, ?_⟩, bo_eq fun i j hi hj => ?_⟩
    · intro i j
      split
      · rcases hf i j with h | h
        · exact List.all_eq_true.mp g3 _ h
        · rw [h]
          decide
      · decide
    · intro i j h
      rw [if_neg h]
    · rw [if_pos ⟨hi, hj⟩]
  have z1 : ((1 + v1 : Nat) : Int) = 1 + (v1 : Int) := by omega
  have z2 : ((1 + v2 : Nat) : Int) = 1 + (v2 : Int) := by omega
  rw [z1, z2] at p6
  have x3 : opIx (.lst [.str [35, 46], .str [35, 46, 35, 46, 35, 46, 42], .str [35, 46, 35, 46, 35, 46, 35, 46, 42, 111], .str [35, 35, 46], .str [35, 46, 46]]) (.int v3) = some (.str (sgns v3)) := by
    have : v3 = 0 ∨ v3 = 1 ∨ v3 = 2 ∨ v3 = 3 ∨ v3 = 4 := by omega
    rcases this with rfl | rfl | rfl | rfl | rfl <;> rfl
  have goal : ∃ f c' k', BD R C f ∧ D__law_any_board [.int c, .int k] [.int m] = .ok (Bo R C f) [.int c', .int k'] := by
    rw [show D__law_any_board [.int c, .int k] [.int m] = finO (B__law_any_board [.bor [.int c, .int k], .dat (.int m), .un, .un, .un, .un, .un, .un]) from rfl]
    have e1 : D__law_roll [.int c, .int k] [.int 4] = .ok (.int v1) [.int c1, .int k1] := e1
    have e2' : D__law_roll [.int c1, .int k1] [.int 4] = .ok (.int v2) [.int c2, .int k2] := e2'
    have e3 : D__law_roll [.int c2, .int k2] [.int 5] = .ok (.int v3) [.int c3, .int k3] := e3
    simp only [B__law_any_board, seq_ap, set_ap, setK_ap, ret_ap, retK_ap, if_ap, ifK_ap, nil_ap, exp_ap, expK_ap, par_ap, parA_ap, parB_ap, asg_ap, asgK_ap, asgQ_ap, aug_ap, augQ_ap, augK_ap, augL_ap, raise_ap, newL_ap, newK_ap, app_ap, appQ_ap, appK_ap, appL_ap, frz_ap, frzQ_ap, tv_ap, an_ap, anK_ap, or_ap, orK_ap, no_ap, noK_ap, ty_ap, e1_ap, e1K_ap, e2_ap, e2K_ap, e2L_ap, v_ap, vQ_ap, c_ap, call_ap, callK_ap, eB_ap, eBK_ap, aC_ap, aCA_ap, aCB_ap, aN_ap, tup_ap, tupK_ap, lst_ap, lstK_ap, eIf_ap, eIfK_ap, eAn_ap, eAnK_ap, eOr_ap, eOrK_ap, okF_ap, eNo_ap, ch_ap, chA_ap, chB_ap, chC_ap, ixO_ap, ixQ_own, ixQ_bor, ixK_ap, ixL_own, ixL_bor, callO_ap, coQ_ap, coK_ap, coL_ap, tow_ok, iL_ap, iT_ap, iS_ap, iEnum_ap, enK_ap, iR_ap, sl_ap, slA_ap, slB_ap, slC_ap, gNo_ap, gSo_ap, gsK_ap, setAll, at_ok, at_exc, lf_some, chK_t, chK_f, to_ok, to_exc, blK_ap, bK_ap, nK_ap, flK_nx, flK_ret, lK_ap, uK_ap, f_nx, f_ret, f_exc, List.getElem?_cons_zero, List.getElem?_cons_succ, List.set_cons_zero, List.set_cons_succ, cond_true, cond_false, Bool.not_true, Bool.not_false, Bool.false_eq_true, if_false, callO_ap, e1, e2', add_int, p6, e3, x3]
    obtain ⟨f, c', k', s6, hf, ez⟩ := key (fun z => ∃ (f : F2) (c' k' : Int) (s6 : Sl), (∀ i j, f i j ∈ sgns v3 ∨ f i j = 46) ∧ z = .ok .nx [.bor [.int c', .int k'], .dat (.int m), .dat (.int R), .dat (.int C), .dat (.str (sgns v3)), .own ((List.range R).map fun i => .str (row C (f i))), s6, .un]) (fun f c' k' s6 hf => ⟨f, c', k', s6, hf, rfl⟩)
    obtain ⟨g, hg, e⟩ := fin f c' k' hf
    refine ⟨g, c', k', hg, ?_⟩
    rw [ez]
    simp only [seq_ap, set_ap, setK_ap, ret_ap, retK_ap, if_ap, ifK_ap, nil_ap, exp_ap, expK_ap, par_ap, parA_ap, parB_ap, asg_ap, asgK_ap, asgQ_ap, aug_ap, augQ_ap, augK_ap, augL_ap, raise_ap, newL_ap, newK_ap, app_ap, appQ_ap, appK_ap, appL_ap, frz_ap, frzQ_ap, tv_ap, an_ap, anK_ap, or_ap, orK_ap, no_ap, noK_ap, ty_ap, e1_ap, e1K_ap, e2_ap, e2K_ap, e2L_ap, v_ap, vQ_ap, c_ap, call_ap, callK_ap, eB_ap, eBK_ap, aC_ap, aCA_ap, aCB_ap, aN_ap, tup_ap, tupK_ap, lst_ap, lstK_ap, eIf_ap, eIfK_ap, eAn_ap, eAnK_ap, eOr_ap, eOrK_ap, okF_ap, eNo_ap, ch_ap, chA_ap, chB_ap, chC_ap, ixO_ap, ixQ_own, ixQ_bor, ixK_ap, ixL_own, ixL_bor, callO_ap, coQ_ap, coK_ap, coL_ap, tow_ok, iL_ap, iT_ap, iS_ap, iEnum_ap, enK_ap, iR_ap, sl_ap, slA_ap, slB_ap, slC_ap, gNo_ap, gSo_ap, gsK_ap, setAll, at_ok, at_exc, lf_some, chK_t, chK_f, to_ok, to_exc, blK_ap, bK_ap, nK_ap, flK_nx, flK_ret, lK_ap, uK_ap, f_nx, f_ret, f_exc, List.getElem?_cons_zero, List.getElem?_cons_succ, List.set_cons_zero, List.set_cons_succ, cond_true, cond_false, Bool.not_true, Bool.not_false, Bool.false_eq_true, if_false, tuple_rows, e]
    rfl
  obtain ⟨f, c', k', a, b⟩ := goal
  exact ⟨R, C, f, c', k', hS, p5, a, b⟩
end FB
namespace FB
/-! ### for law bodies -/
def tdK (kn : Nat → List Nat) (ok : Nat → Bool) (x : R D) : R D := match x with
  | .ok d r1 => .ok d r1
  | .exc c r1 => if ok c = true then .ok (errD kn c) r1 else .bad
  | .bad => .bad
section
variable {r : En} {a : M D} {d : D} {R C : Nat} {f : F2}
theorem td_ap : eTold kindE okE a r = tdK kindE okE (a r) := rfl
theorem td_ok : tdK kindE okE (.ok d r) = .ok d r := rfl
theorem td_1 : tdK kindE okE (.exc 1 r) = .ok (.tup [.str [101, 114, 114, 111, 114], .str [73, 110, 118, 97, 108, 105, 100, 66, 111, 97, 114, 100]]) r := rfl
theorem td_2 : tdK kindE okE (.exc 2 r) = .ok (.tup [.str [101, 114, 114, 111, 114], .str [73, 110, 118, 97, 108, 105, 100, 67, 101, 108, 108]]) r := rfl
theorem td_3 : tdK kindE okE (.exc 3 r) = .ok (.tup [.str [101, 114, 114, 111, 114], .str [73, 110, 118, 97, 108, 105, 100, 67, 101, 108, 108, 115]]) r := rfl
theorem td_4 : tdK kindE okE (.exc 4 r) = .ok (.tup [.str [101, 114, 114, 111, 114], .str [73, 110, 118, 97, 108, 105, 100, 84, 105, 99, 107, 115]]) r := rfl
theorem td_5 : tdK kindE okE (.exc 5 r) = .ok (.tup [.str [101, 114, 114, 111, 114], .str [73, 110, 118, 97, 108, 105, 100, 84, 101, 120, 116]]) r := rfl
theorem td_6 : tdK kindE okE (.exc 6 r) = .ok (.tup [.str [101, 114, 114, 111, 114], .str [84, 111, 111, 76, 97, 114, 103, 101]]) r := rfl
theorem td_7 : tdK kindE okE (.exc 7 r) = .ok (.tup [.str [101, 114, 114, 111, 114], .str [85, 110, 108, 105, 107, 101]]) r := rfl
theorem td_8 : tdK kindE okE (.exc 8 r) = .ok (.tup [.str [101, 114, 114, 111, 114], .str [78, 111, 116, 104, 105, 110, 103, 84, 111, 85, 110, 100, 111]]) r := rfl
theorem ne_err (a b : List Nat) : opNe (.tup [.str a, .str b]) (.tup [.str a, .str b]) = some (.bl false) := by
  rw [opNe_of rfl (leL rfl) (leL rfl)]
  simp [D.eqv, D.eqvL]
theorem eq_err (a b : List Nat) : opEq (.tup [.str a, .str b]) (.tup [.str a, .str b]) = some (.bl true) := by
  rw [opEq_of rfl (leL rfl) (leL rfl)]
  simp [D.eqv, D.eqvL]
theorem isN_non : opIsN2 .non .non = some (.bl true) := rfl
theorem seq_nx {st su : M Fl} {Q : En → Prop} (h : Nx (st r) fun r1 => Nx (su r1) Q) : Nx (sSeq st su r) Q := by
  obtain ⟨r1, e, q⟩ := h
  rw [seq_ap, e, at_ok]
  exact q
end
end FB
namespace FB
/-! ### cells, counts -/
section
variable {R C : Nat} {f : F2}
/-! ### some of the cells -/
theorem all2_sub {l : List (Nat × Nat)} {os : List (Option D)} (h : All2 (fun p o => o = none ∨ o = some (cD p)) l os) : ∃ m : List (Nat × Nat), m.Sublist l ∧ os.filterMap id = m.map cD := by
  induction h with
  | nil => exact ⟨[], List.Sublist.refl _, rfl⟩
  | cons hab _ ih =>
    obtain ⟨m, m1, m2⟩ := ih
    rcases hab with rfl | rfl
    · exact ⟨m, m1.cons _, by simp [m2]⟩
    · exact ⟨_ :: m, m1.cons₂ _, by simp [m2]⟩
theorem some_ok (c k : Int) (own : List (Nat × Nat)) (hl : own.length ≤ lim) : ∃ (m : List (Nat × Nat)) (c' k' : Int), m.Sublist own ∧ D__law_some [.int c, .int k] [.lst (own.map cD)] = .ok (.tup (m.map cD)) [.int c', .int k'] := by
  obtain ⟨v, c1, k1, e1', hv⟩ := roll_nat c k 2 (by omega) (by omega)
  have e1' : D__law_roll [.int c, .int k] [.int 2] = _ := e1'
  obtain ⟨os, c2, k2, q1, q2⟩ := lc_dice (it := iL (eV 1)) (tt := tV (e2 opEq (eCallO D__law_roll 0 (aC (eV 2) aN)) (eC (.int 0)))) (te := eV 3) (v := 3) (fun c k s => [.bor [.int c, .int k], .dat (.lst (own.map cD)), .dat (.int (2 + v)), s])
    cD (fun p o => o = none ∨ o = some (cD p)) (fun _ _ _ _ => rfl) (fun _ _ _ => rfl) own c1 k1 .un rfl hl (by simp only [seq_ap, set_ap, setK_ap, ret_ap, retK_ap, if_ap, ifK_ap, nil_ap, exp_ap, expK_ap, par_ap, parA_ap, parB_ap, asg_ap, asgK_ap, asgQ_ap, aug_ap, augQ_ap, augK_ap, augL_ap, raise_ap, newL_ap, newK_ap, app_ap, appQ_ap, appK_ap, appL_ap, frz_ap, frzQ_ap, tv_ap, an_ap, anK_ap, or_ap, orK_ap, no_ap, noK_ap, ty_ap, e1_ap, e1K_ap, e2_ap, e2K_ap, e2L_ap, v_ap, vQ_ap, c_ap, call_ap, callK_ap, eB_ap, eBK_ap, aC_ap, aCA_ap, aCB_ap, aN_ap, tup_ap, tupK_ap, lst_ap, lstK_ap, eIf_ap, eIfK_ap, eAn_ap, eAnK_ap, eOr_ap, eOrK_ap, okF_ap, eNo_ap, ch_ap, chA_ap, chB_ap, chC_ap, ixO_ap, ixQ_own, ixQ_bor, ixK_ap, ixL_own, ixL_bor, callO_ap, coQ_ap, coK_ap, coL_ap, tow_ok, iL_ap, iT_ap, iS_ap, iEnum_ap, enK_ap, iR_ap, sl_ap, slA_ap, slB_ap, slC_ap, gNo_ap, gSo_ap, gsK_ap, setAll, at_ok, at_exc, lf_some, chK_t, chK_f, to_ok, to_exc, blK_ap, bK_ap, nK_ap, flK_nx, flK_ret, lK_ap, uK_ap, f_nx, f_ret, f_exc, List.getElem?_cons_zero, List.getElem?_cons_succ, List.set_cons_zero, List.set_cons_succ, cond_true, cond_false, Bool.not_true, Bool.not_false, Bool.false_eq_true, if_false]) (by
      intro x hx c k
      obtain ⟨w, c', k', e, hw⟩ := roll_nat c k (2 + v) (by omega) (by omega)
      have e : D__law_roll [.int c, .int k] [.int (2 + (v : Int))] = .ok (.int w) [.int c', .int k'] := by
        rw [← e]
        congr 2
      refine ⟨c', k', ?_⟩
      cases hz : ((w : Int) == 0)
      · left
        refine ⟨.inl rfl, ?_⟩
        simp only [seq_ap, set_ap, setK_ap, ret_ap, retK_ap, if_ap, ifK_ap, nil_ap, exp_ap, expK_ap, par_ap, parA_ap, parB_ap, asg_ap, asgK_ap, asgQ_ap, aug_ap, augQ_ap, augK_ap, augL_ap, raise_ap, newL_ap, newK_ap, app_ap, appQ_ap, appK_ap, appL_ap, frz_ap, frzQ_ap, tv_ap, an_ap, anK_ap, or_ap, orK_ap, no_ap, noK_ap, ty_ap, e1_ap, e1K_ap, e2_ap, e2K_ap, e2L_ap, v_ap, vQ_ap, c_ap, call_ap, callK_ap, eB_ap, eBK_ap, aC_ap, aCA_ap, aCB_ap, aN_ap, tup_ap, tupK_ap, lst_ap, lstK_ap, eIf_ap, eIfK_ap, eAn_ap, eAnK_ap, eOr_ap, eOrK_ap, okF_ap, eNo_ap, ch_ap, chA_ap, chB_ap, chC_ap, ixO_ap, ixQ_own, ixQ_bor, ixK_ap, ixL_own, ixL_bor, callO_ap, coQ_ap, coK_ap, coL_ap, tow_ok, iL_ap, iT_ap, iS_ap, iEnum_ap, enK_ap, iR_ap, sl_ap, slA_ap, slB_ap, slC_ap, gNo_ap, gSo_ap, gsK_ap, setAll, at_ok, at_exc, lf_some, chK_t, chK_f, to_ok, to_exc, blK_ap, bK_ap, nK_ap, flK_nx, flK_ret, lK_ap, uK_ap, f_nx, f_ret, f_exc, List.getElem?_cons_zero, List.getElem?_cons_succ, List.set_cons_zero, List.set_cons_succ, cond_true, cond_false, Bool.not_true, Bool.not_false, Bool.false_eq_true, if_false, e, eq_int, hz]
      · right
        refine ⟨cD x, c', k', .inr rfl, ?_, ?_⟩
        · simp only [seq_ap, set_ap, setK_ap, ret_ap, retK_ap, if_ap, ifK_ap, nil_ap, exp_ap, expK_ap, par_ap, parA_ap, parB_ap, asg_ap, asgK_ap, asgQ_ap, aug_ap, augQ_ap, augK_ap, augL_ap, raise_ap, newL_ap, newK_ap, app_ap, appQ_ap, appK_ap, appL_ap, frz_ap, frzQ_ap, tv_ap, an_ap, anK_ap, or_ap, orK_ap, no_ap, noK_ap, ty_ap, e1_ap, e1K_ap, e2_ap, e2K_ap, e2L_ap, v_ap, vQ_ap, c_ap, call_ap, callK_ap, eB_ap, eBK_ap, aC_ap, aCA_ap, aCB_ap, aN_ap, tup_ap, tupK_ap, lst_ap, lstK_ap, eIf_ap, eIfK_ap, eAn_ap, eAnK_ap, eOr_ap, eOrK_ap, okF_ap, eNo_ap, ch_ap, chA_ap, chB_ap, chC_ap, ixO_ap, ixQ_own, ixQ_bor, ixK_ap, ixL_own, ixL_bor, callO_ap, coQ_ap, coK_ap, coL_ap, tow_ok, iL_ap, iT_ap, iS_ap, iEnum_ap, enK_ap, iR_ap, sl_ap, slA_ap, slB_ap, slC_ap, gNo_ap, gSo_ap, gsK_ap, setAll, at_ok, at_exc, lf_some, chK_t, chK_f, to_ok, to_exc, blK_ap, bK_ap, nK_ap, flK_nx, flK_ret, lK_ap, uK_ap, f_nx, f_ret, f_exc, List.getElem?_cons_zero, List.getElem?_cons_succ, List.set_cons_zero, List.set_cons_succ, cond_true, cond_false, Bool.not_true, Bool.not_false, Bool.false_eq_true, if_false, e, eq_int, hz]
        · simp only [seq_ap, set_ap, setK_ap, ret_ap, retK_ap, if_ap, ifK_ap, nil_ap, exp_ap, expK_ap, par_ap, parA_ap, parB_ap, asg_ap, asgK_ap, asgQ_ap, aug_ap, augQ_ap, augK_ap, augL_ap, raise_ap, newL_ap, newK_ap, app_ap, appQ_ap, appK_ap, appL_ap, frz_ap, frzQ_ap, tv_ap, an_ap, anK_ap, or_ap, orK_ap, no_ap, noK_ap, ty_ap, e1_ap, e1K_ap, e2_ap, e2K_ap, e2L_ap, v_ap, vQ_ap, c_ap, call_ap, callK_ap, eB_ap, eBK_ap, aC_ap, aCA_ap, aCB_ap, aN_ap, tup_ap, tupK_ap, lst_ap, lstK_ap, eIf_ap, eIfK_ap, eAn_ap, eAnK_ap, eOr_ap, eOrK_ap, okF_ap, eNo_ap, ch_ap, chA_ap, chB_ap, chC_ap, ixO_ap, ixQ_own, ixQ_bor, ixK_ap, ixL_own, ixL_bor, callO_ap, coQ_ap, coK_ap, coL_ap, tow_ok, iL_ap, iT_ap, iS_ap, iEnum_ap, enK_ap, iR_ap, sl_ap, slA_ap, slB_ap, slC_ap, gNo_ap, gSo_ap, gsK_ap, setAll, at_ok, at_exc, lf_some, chK_t, chK_f, to_ok, to_exc, blK_ap, bK_ap, nK_ap, flK_nx, flK_ret, lK_ap, uK_ap, f_nx, f_ret, f_exc, List.getElem?_cons_zero, List.getElem?_cons_succ, List.set_cons_zero, List.set_cons_succ, cond_true, cond_false, Bool.not_true, Bool.not_false, Bool.false_eq_true, if_false])
  obtain ⟨m, m1, m2⟩ := all2_sub q1
  refine ⟨m, c2, k2, m1, ?_⟩
  rw [show D__law_some [.int c, .int k] [.lst (own.map cD)] = finO (B__law_some [.bor [.int c, .int k], .dat (.lst (own.map cD)), .un, .un]) from rfl]
  have e : ∀ xs, bTuple [.lst xs] = some (.tup xs) := fun _ => rfl
  simp only [B__law_some, seq_ap, set_ap, setK_ap, ret_ap, retK_ap, if_ap, ifK_ap, nil_ap, exp_ap, expK_ap, par_ap, parA_ap, parB_ap, asg_ap, asgK_ap, asgQ_ap, aug_ap, augQ_ap, augK_ap, augL_ap, raise_ap, newL_ap, newK_ap, app_ap, appQ_ap, appK_ap, appL_ap, frz_ap, frzQ_ap, tv_ap, an_ap, anK_ap, or_ap, orK_ap, no_ap, noK_ap, ty_ap, e1_ap, e1K_ap, e2_ap, e2K_ap, e2L_ap, v_ap, vQ_ap, c_ap, call_ap, callK_ap, eB_ap, eBK_ap, aC_ap, aCA_ap, aCB_ap, aN_ap, tup_ap, tupK_ap, lst_ap, lstK_ap, eIf_ap, eIfK_ap, eAn_ap, eAnK_ap, eOr_ap, eOrK_ap, okF_ap, eNo_ap, ch_ap, chA_ap, chB_ap, chC_ap, ixO_ap, ixQ_own, ixQ_bor, ixK_ap, ixL_own, ixL_bor, callO_ap, coQ_ap, coK_ap, coL_ap, tow_ok, iL_ap, iT_ap, iS_ap, iEnum_ap, enK_ap, iR_ap, sl_ap, slA_ap, slB_ap, slC_ap, gNo_ap, gSo_ap, gsK_ap, setAll, at_ok, at_exc, lf_some, chK_t, chK_f, to_ok, to_exc, blK_ap, bK_ap, nK_ap, flK_nx, flK_ret, lK_ap, uK_ap, f_nx, f_ret, f_exc, List.getElem?_cons_zero, List.getElem?_cons_succ, List.set_cons_zero, List.set_cons_succ, cond_true, cond_false, Bool.not_true, Bool.not_false, Bool.false_eq_true, if_false, e1', add_int, q2, m2, e]
  rfl
/-! ### tuples of free cells -/
end
end FB
namespace FB
/-! ### exchanged and turned boards -/
section
variable {R C : Nat} {f g : F2}
def exS : Nat → Nat
  | 35 => 46
  | 46 => 35
  | 42 => 111
  | 111 => 42
  | _ => 46
theorem tab_ok {c : Nat} (h : okS c = true) : tabO (.str [c]) = some (.str [exS c]) := by
  rcases okS_cases h with rfl | rfl | rfl | rfl <;> rfl
def exch (R C : Nat) (f : F2) : F2 := fun i j => if i < R ∧ j < C then exS (f i j) else 46
theorem exch_BD (hf : BD R C f) : BD R C (exch R C f) where
  ok i j := by
    unfold exch
    split
    · rcases okS_cases (hf.ok i j) with h | h | h | h <;> rw [h] <;> decide
    · decide
  out i j h := if_neg h
theorem Sh.turn (h : Sh R C) : Sh C R := ⟨h.c1, h.c4, h.r1, h.r4, by rw [Nat.mul_comm]; exact h.m⟩
theorem exch_ok (h : Sh R C) (hf : BD R C f) : D_exchanged [Bo R C f] = .ok (Bo R C (exch R C f)) := by
  have hR4 := h.r4
  have hC4 := h.c4
  simp only [D_exchanged, B_exchanged, run1, run2, run3, run4, Nat.reduceSub, List.replicate_succ, List.replicate_zero, Nat.reduceAdd, seq_ap, set_ap, setK_ap, ret_ap, retK_ap, if_ap, ifK_ap, nil_ap, exp_ap, expK_ap, par_ap, parA_ap, parB_ap, asg_ap, asgK_ap, asgQ_ap, aug_ap, augQ_ap, augK_ap, augL_ap, raise_ap, newL_ap, newK_ap, app_ap, appQ_ap, appK_ap, appL_ap, frz_ap, frzQ_ap, tv_ap, an_ap, anK_ap, or_ap, orK_ap, no_ap, noK_ap, ty_ap, e1_ap, e1K_ap, e2_ap, e2K_ap, e2L_ap, v_ap, vQ_ap, c_ap, call_ap, callK_ap, eB_ap, eBK_ap, aC_ap, aCA_ap, aCB_ap, aN_ap, tup_ap, tupK_ap, lst_ap, lstK_ap, eIf_ap, eIfK_ap, eAn_ap, eAnK_ap, eOr_ap, eOrK_ap, okF_ap, eNo_ap, ch_ap, chA_ap, chB_ap, chC_ap, ixO_ap, ixQ_own, ixQ_bor, ixK_ap, ixL_own, ixL_bor, callO_ap, coQ_ap, coK_ap, coL_ap, tow_ok, iL_ap, iT_ap, iS_ap, iEnum_ap, enK_ap, iR_ap, sl_ap, slA_ap, slB_ap, slC_ap, gNo_ap, gSo_ap, gsK_ap, setAll, at_ok, at_exc, lf_some, chK_t, chK_f, to_ok, to_exc, blK_ap, bK_ap, nK_ap, flK_nx, flK_ret, lK_ap, uK_ap, f_nx, f_ret, f_exc, List.getElem?_cons_zero, List.getElem?_cons_succ, List.set_cons_zero, List.set_cons_succ, cond_true, cond_false, Bool.not_true, Bool.not_false, Bool.false_eq_true, if_false, needb_ok h hf.ok]
  rw [lc_A (List.range R) (fun i => .str (row C (f i))) (fun i => .str (row C (fun j => exS (f i j))))]
  · simp only [seq_ap, set_ap, setK_ap, ret_ap, retK_ap, if_ap, ifK_ap, nil_ap, exp_ap, expK_ap, par_ap, parA_ap, parB_ap, asg_ap, asgK_ap, asgQ_ap, aug_ap, augQ_ap, augK_ap, augL_ap, raise_ap, newL_ap, newK_ap, app_ap, appQ_ap, appK_ap, appL_ap, frz_ap, frzQ_ap, tv_ap, an_ap, anK_ap, or_ap, orK_ap, no_ap, noK_ap, ty_ap, e1_ap, e1K_ap, e2_ap, e2K_ap, e2L_ap, v_ap, vQ_ap, c_ap, call_ap, callK_ap, eB_ap, eBK_ap, aC_ap, aCA_ap, aCB_ap, aN_ap, tup_ap, tupK_ap, lst_ap, lstK_ap, eIf_ap, eIfK_ap, eAn_ap, eAnK_ap, eOr_ap, eOrK_ap, okF_ap, eNo_ap, ch_ap, chA_ap, chB_ap, chC_ap, ixO_ap, ixQ_own, ixQ_bor, ixK_ap, ixL_own, ixL_bor, callO_ap, coQ_ap, coK_ap, coL_ap, tow_ok, iL_ap, iT_ap, iS_ap, iEnum_ap, enK_ap, iR_ap, sl_ap, slA_ap, slB_ap, slC_ap, gNo_ap, gSo_ap, gsK_ap, setAll, at_ok, at_exc, lf_some, chK_t, chK_f, to_ok, to_exc, blK_ap, bK_ap, nK_ap, flK_nx, flK_ret, lK_ap, uK_ap, f_nx, f_ret, f_exc, List.getElem?_cons_zero, List.getElem?_cons_succ, List.set_cons_zero, List.set_cons_succ, cond_true, cond_false, Bool.not_true, Bool.not_false, Bool.false_eq_true, if_false]
    have : bTuple [.lst ((List.range R).map fun i => .str (row C (fun j => exS (f i j))))] = some (Bo R C fun i j => exS (f i j)) := rfl
    simp only [seq_ap, set_ap, setK_ap, ret_ap, retK_ap, if_ap, ifK_ap, nil_ap, exp_ap, expK_ap, par_ap, parA_ap, parB_ap, asg_ap, asgK_ap, asgQ_ap, aug_ap, augQ_ap, augK_ap, augL_ap, raise_ap, newL_ap, newK_ap, app_ap, appQ_ap, appK_ap, appL_ap, frz_ap, frzQ_ap, tv_ap, an_ap, anK_ap, or_ap, orK_ap, no_ap, noK_ap, ty_ap, e1_ap, e1K_ap, e2_ap, e2K_ap, e2L_ap, v_ap, vQ_ap, c_ap, call_ap, callK_ap, eB_ap, eBK_ap, aC_ap, aCA_ap, aCB_ap, aN_ap, tup_ap, tupK_ap, lst_ap, lstK_ap, eIf_ap, eIfK_ap, eAn_ap, eAnK_ap, eOr_ap, eOrK_ap, okF_ap, eNo_ap, ch_ap, chA_ap, chB_ap, chC_ap, ixO_ap, ixQ_own, ixQ_bor, ixK_ap, ixL_own, ixL_bor, callO_ap, coQ_ap, coK_ap, coL_ap, tow_ok, iL_ap, iT_ap, iS_ap, iEnum_ap, enK_ap, iR_ap, sl_ap, slA_ap, slB_ap, slC_ap, gNo_ap, gSo_ap, gsK_ap, setAll, at_ok, at_exc, lf_some, chK_t, chK_f, to_ok, to_exc, blK_ap, bK_ap, nK_ap, flK_nx, flK_ret, lK_ap, uK_ap, f_nx, f_ret, f_exc, List.getElem?_cons_zero, List.getElem?_cons_succ, List.set_cons_zero, List.set_cons_succ, cond_true, cond_false, Bool.not_true, Bool.not_false, Bool.false_eq_true, if_false, this]
    congr 1
    apply bo_eq
    intro i j hi hj
    unfold exch
    rw [if_pos ⟨hi, hj⟩]
  · simp only [seq_ap, set_ap, setK_ap, ret_ap, retK_ap, if_ap, ifK_ap, nil_ap, exp_ap, expK_ap, par_ap, parA_ap, parB_ap, asg_ap, asgK_ap, asgQ_ap, aug_ap, augQ_ap, augK_ap, augL_ap, raise_ap, newL_ap, newK_ap, app_ap, appQ_ap, appK_ap, appL_ap, frz_ap, frzQ_ap, tv_ap, an_ap, anK_ap, or_ap, orK_ap, no_ap, noK_ap, ty_ap, e1_ap, e1K_ap, e2_ap, e2K_ap, e2L_ap, v_ap, vQ_ap, c_ap, call_ap, callK_ap, eB_ap, eBK_ap, aC_ap, aCA_ap, aCB_ap, aN_ap, tup_ap, tupK_ap, lst_ap, lstK_ap, eIf_ap, eIfK_ap, eAn_ap, eAnK_ap, eOr_ap, eOrK_ap, okF_ap, eNo_ap, ch_ap, chA_ap, chB_ap, chC_ap, ixO_ap, ixQ_own, ixQ_bor, ixK_ap, ixL_own, ixL_bor, callO_ap, coQ_ap, coK_ap, coL_ap, tow_ok, iL_ap, iT_ap, iS_ap, iEnum_ap, enK_ap, iR_ap, sl_ap, slA_ap, slB_ap, slC_ap, gNo_ap, gSo_ap, gsK_ap, setAll, at_ok, at_exc, lf_some, chK_t, chK_f, to_ok, to_exc, blK_ap, bK_ap, nK_ap, flK_nx, flK_ret, lK_ap, uK_ap, f_nx, f_ret, f_exc, List.getElem?_cons_zero, List.getElem?_cons_succ, List.set_cons_zero, List.set_cons_succ, cond_true, cond_false, Bool.not_true, Bool.not_false, Bool.false_eq_true, if_false, uK_Bo]
  · exact ⟨rfl, ltL rfl, by simp [lim]; omega⟩
  · intro i hi
    simp only [seq_ap, set_ap, setK_ap, ret_ap, retK_ap, if_ap, ifK_ap, nil_ap, exp_ap, expK_ap, par_ap, parA_ap, parB_ap, asg_ap, asgK_ap, asgQ_ap, aug_ap, augQ_ap, augK_ap, augL_ap, raise_ap, newL_ap, newK_ap, app_ap, appQ_ap, appK_ap, appL_ap, frz_ap, frzQ_ap, tv_ap, an_ap, anK_ap, or_ap, orK_ap, no_ap, noK_ap, ty_ap, e1_ap, e1K_ap, e2_ap, e2K_ap, e2L_ap, v_ap, vQ_ap, c_ap, call_ap, callK_ap, eB_ap, eBK_ap, aC_ap, aCA_ap, aCB_ap, aN_ap, tup_ap, tupK_ap, lst_ap, lstK_ap, eIf_ap, eIfK_ap, eAn_ap, eAnK_ap, eOr_ap, eOrK_ap, okF_ap, eNo_ap, ch_ap, chA_ap, chB_ap, chC_ap, ixO_ap, ixQ_own, ixQ_bor, ixK_ap, ixL_own, ixL_bor, callO_ap, coQ_ap, coK_ap, coL_ap, tow_ok, iL_ap, iT_ap, iS_ap, iEnum_ap, enK_ap, iR_ap, sl_ap, slA_ap, slB_ap, slC_ap, gNo_ap, gSo_ap, gsK_ap, setAll, at_ok, at_exc, lf_some, chK_t, chK_f, to_ok, to_exc, blK_ap, bK_ap, nK_ap, flK_nx, flK_ret, lK_ap, uK_ap, f_nx, f_ret, f_exc, List.getElem?_cons_zero, List.getElem?_cons_succ, List.set_cons_zero, List.set_cons_succ, cond_true, cond_false, Bool.not_true, Bool.not_false, Bool.false_eq_true, if_false]
    rw [lc_A (List.range C) (fun j => .str [f i j]) (fun j => .str [exS (f i j)])]
    · simp only [seq_ap, set_ap, setK_ap, ret_ap, retK_ap, if_ap, ifK_ap, nil_ap, exp_ap, expK_ap, par_ap, parA_ap, parB_ap, asg_ap, asgK_ap, asgQ_ap, aug_ap, augQ_ap, augK_ap, augL_ap, raise_ap, newL_ap, newK_ap, app_ap, appQ_ap, appK_ap, appL_ap, frz_ap, frzQ_ap, tv_ap, an_ap, anK_ap, or_ap, orK_ap, no_ap, noK_ap, ty_ap, e1_ap, e1K_ap, e2_ap, e2K_ap, e2L_ap, v_ap, vQ_ap, c_ap, call_ap, callK_ap, eB_ap, eBK_ap, aC_ap, aCA_ap, aCB_ap, aN_ap, tup_ap, tupK_ap, lst_ap, lstK_ap, eIf_ap, eIfK_ap, eAn_ap, eAnK_ap, eOr_ap, eOrK_ap, okF_ap, eNo_ap, ch_ap, chA_ap, chB_ap, chC_ap, ixO_ap, ixQ_own, ixQ_bor, ixK_ap, ixL_own, ixL_bor, callO_ap, coQ_ap, coK_ap, coL_ap, tow_ok, iL_ap, iT_ap, iS_ap, iEnum_ap, enK_ap, iR_ap, sl_ap, slA_ap, slB_ap, slC_ap, gNo_ap, gSo_ap, gsK_ap, setAll, at_ok, at_exc, lf_some, chK_t, chK_f, to_ok, to_exc, blK_ap, bK_ap, nK_ap, flK_nx, flK_ret, lK_ap, uK_ap, f_nx, f_ret, f_exc, List.getElem?_cons_zero, List.getElem?_cons_succ, List.set_cons_zero, List.set_cons_succ, cond_true, cond_false, Bool.not_true, Bool.not_false, Bool.false_eq_true, if_false, join_row (g := fun j => exS (f i j)) C (by omega)]
    · simp only [seq_ap, set_ap, setK_ap, ret_ap, retK_ap, if_ap, ifK_ap, nil_ap, exp_ap, expK_ap, par_ap, parA_ap, parB_ap, asg_ap, asgK_ap, asgQ_ap, aug_ap, augQ_ap, augK_ap, augL_ap, raise_ap, newL_ap, newK_ap, app_ap, appQ_ap, appK_ap, appL_ap, frz_ap, frzQ_ap, tv_ap, an_ap, anK_ap, or_ap, orK_ap, no_ap, noK_ap, ty_ap, e1_ap, e1K_ap, e2_ap, e2K_ap, e2L_ap, v_ap, vQ_ap, c_ap, call_ap, callK_ap, eB_ap, eBK_ap, aC_ap, aCA_ap, aCB_ap, aN_ap, tup_ap, tupK_ap, lst_ap, lstK_ap, eIf_ap, eIfK_ap, eAn_ap, eAnK_ap, eOr_ap, eOrK_ap, okF_ap, eNo_ap, ch_ap, chA_ap, chB_ap, chC_ap, ixO_ap, ixQ_own, ixQ_bor, ixK_ap, ixL_own, ixL_bor, callO_ap, coQ_ap, coK_ap, coL_ap, tow_ok, iL_ap, iT_ap, iS_ap, iEnum_ap, enK_ap, iR_ap, sl_ap, slA_ap, slB_ap, slC_ap, gNo_ap, gSo_ap, gsK_ap, setAll, at_ok, at_exc, lf_some, chK_t, chK_f, to_ok, to_exc, blK_ap, bK_ap, nK_ap, flK_nx, flK_ret, lK_ap, uK_ap, f_nx, f_ret, f_exc, List.getElem?_cons_zero, List.getElem?_cons_succ, List.set_cons_zero, List.set_cons_succ, cond_true, cond_false, Bool.not_true, Bool.not_false, Bool.false_eq_true, if_false, sK_row]
    · exact ⟨rfl, ltL rfl, by simp [lim]; omega⟩
    · intro j hj
      simp only [seq_ap, set_ap, setK_ap, ret_ap, retK_ap, if_ap, ifK_ap, nil_ap, exp_ap, expK_ap, par_ap, parA_ap, parB_ap, asg_ap, asgK_ap, asgQ_ap, aug_ap, augQ_ap, augK_ap, augL_ap, raise_ap, newL_ap, newK_ap, app_ap, appQ_ap, appK_ap, appL_ap, frz_ap, frzQ_ap, tv_ap, an_ap, anK_ap, or_ap, orK_ap, no_ap, noK_ap, ty_ap, e1_ap, e1K_ap, e2_ap, e2K_ap, e2L_ap, v_ap, vQ_ap, c_ap, call_ap, callK_ap, eB_ap, eBK_ap, aC_ap, aCA_ap, aCB_ap, aN_ap, tup_ap, tupK_ap, lst_ap, lstK_ap, eIf_ap, eIfK_ap, eAn_ap, eAnK_ap, eOr_ap, eOrK_ap, okF_ap, eNo_ap, ch_ap, chA_ap, chB_ap, chC_ap, ixO_ap, ixQ_own, ixQ_bor, ixK_ap, ixL_own, ixL_bor, callO_ap, coQ_ap, coK_ap, coL_ap, tow_ok, iL_ap, iT_ap, iS_ap, iEnum_ap, enK_ap, iR_ap, sl_ap, slA_ap, slB_ap, slC_ap, gNo_ap, gSo_ap, gsK_ap, setAll, at_ok, at_exc, lf_some, chK_t, chK_f, to_ok, to_exc, blK_ap, bK_ap, nK_ap, flK_nx, flK_ret, lK_ap, uK_ap, f_nx, f_ret, f_exc, List.getElem?_cons_zero, List.getElem?_cons_succ, List.set_cons_zero, List.set_cons_succ, cond_true, cond_false, Bool.not_true, Bool.not_false, Bool.false_eq_true, if_false, tab_ok (hf.ok i j)]
/-! sums over cells -/
/-! exchanged -/
theorem ex_ic {c : Nat} (h : okS c = true) : icS (exS c) = !icS c := by
  rcases okS_cases h with rfl | rfl | rfl | rfl <;> rfl
theorem ex_la {c : Nat} (h : okS c = true) : laS (exS c) = laS c := by
  rcases okS_cases h with rfl | rfl | rfl | rfl <;> rfl
theorem ic_ex (hf : BD R C f) {p : Nat × Nat} (hp : p ∈ cellsOf R C) : ic (exch R C f) p = !ic f p := by
  show icS (exch R C f p.1 p.2) = _
  unfold exch
  rw [if_pos (mem_cells.mp hp)]
  exact ex_ic (hf.ok _ _)
theorem nI_ex (hf : BD R C f) (a : Nat × Nat) : nI R C (exch R C f) a = nN R C a - nI R C f a := by
  unfold nI nN
  have := List.length_eq_countP_add_countP (ic f) (l := nb R C a)
  have e : (nb R C a).countP (ic (exch R C f)) = (nb R C a).countP (fun b => decide (¬ ic f b = true)) := by
    apply List.countP_congr
    intro b hb
    rw [ic_ex hf (List.mem_filter.mp hb).1]
    cases ic f b <;> simp
  rw [e]
  omega
theorem tick_ex (hf : BD R C f) : tick R C (exch R C f) = exch R C (tick R C f) := by
  funext i j
  rw [tick_sign (exch_BD hf)]
  by_cases hij : i < R ∧ j < C
  · have hle := nI_le (R := R) (C := C) (x := f) (i, j)
    have e1 : exch R C f i j = exS (f i j) := if_pos hij
    have e2 : exch R C (tick R C f) i j = exS (tick R C f i j) := if_pos hij
    rw [e2, tick_sign hf, nI_ex hf, e1, ex_la (hf.ok i j), ic_ex hf (mem_cells.mpr hij)]
    by_cases hl : laS (f i j) = true
    · rw [if_pos hl, if_pos hl]
    · rw [if_neg hl, if_neg hl]
      by_cases hc : (i < R ∧ j < C) ∧ (2 * nI R C f (i, j) > nN R C (i, j) ∨ (2 * nI R C f (i, j) = nN R C (i, j) ∧ ic f (i, j) = true))
      · rw [if_pos hc, if_neg]
        · rfl
        · rintro ⟨-, h | ⟨h, h'⟩⟩
          · rcases hc.2 with q | q <;> omega
          · rcases hc.2 with q | q
            · omega
            · rw [q.2] at h'
              cases h'
      · rw [if_neg hc, if_pos]
        · rfl
        · refine ⟨hij, ?_⟩
          by_cases h1 : 2 * nI R C f (i, j) = nN R C (i, j)
          · right
            refine ⟨by omega, ?_⟩
            cases hi : ic f (i, j)
            · rfl
            · exact absurd ⟨hij, .inr ⟨h1, hi⟩⟩ hc
          · left
            have : ¬ 2 * nI R C f (i, j) > nN R C (i, j) := fun z => hc ⟨hij, .inl z⟩
            omega
  · have e1 : exch R C f i j = 46 := if_neg hij
    have e2 : exch R C (tick R C f) i j = 46 := if_neg hij
    rw [e1, e2, if_neg (by decide), if_neg (fun z => hij z.1)]
theorem tn_ex (hf : BD R C f) : ∀ n, tn R C (exch R C f) n = exch R C (tn R C f n)
  | 0 => rfl
  | n + 1 => by
    show tick R C (tn R C (exch R C f) n) = exch R C (tick R C (tn R C f n))
    rw [tn_ex hf n, tick_ex (tn_BD hf n)]
theorem ex_ex {c : Nat} (h : okS c = true) : exS (exS c) = c := by
  rcases okS_cases h with rfl | rfl | rfl | rfl <;> rfl
theorem exch_exch (hf : BD R C f) : exch R C (exch R C f) = f := by
  funext i j
  by_cases hij : i < R ∧ j < C
  · have e1 : exch R C (exch R C f) i j = exS (exch R C f i j) := if_pos hij
    have e2 : exch R C f i j = exS (f i j) := if_pos hij
    rw [e1, e2, ex_ex (hf.ok i j)]
  · rw [(exch_BD (exch_BD hf)).out i j hij, hf.out i j hij]
/-! ### tension -/
theorem ne_bl (a b : Bool) : opNe (.bl a) (.bl b) = some (.bl (!D.eqv (.bl a) (.bl b))) := rfl
end
end FB
namespace FB
/-! ### sorted cells -/
section
variable {R C : Nat} {f : F2}
/-! ### cells that never change -/
theorem tn_per (hf : BD R C f) {t : Nat} (ht : Fate R C f t) : ∀ s, t ≤ s → tn R C f (s + 2) = tn R C f s := by
  intro s hs
  obtain ⟨k, rfl⟩ : ∃ k, s = t + k := ⟨s - t, by omega⟩
  clear hs
  induction k with
  | zero => exact ht.two
  | succ k ih =>
    show tick R C (tn R C f (t + k + 2)) = tick R C (tn R C f (t + k))
    rw [ih]
/-! fates of exchanged, turned and later boards -/
theorem exch_inj {g : F2} (hf : BD R C f) (hg : BD R C g) (h : exch R C f = exch R C g) : f = g := by
  rw [← exch_exch hf, ← exch_exch hg, h]
theorem fate_exch (hf : BD R C f) {t : Nat} (ht : Fate R C f t) : Fate R C (exch R C f) t where
  two := by rw [tn_ex hf, tn_ex hf, ht.two]
  fst s hs := by
    rw [tn_ex hf, tn_ex hf]
    exact fun z => ht.fst s hs (exch_inj (tn_BD hf _) (tn_BD hf _) z)
end
end FB
namespace FB
/-! ### boards by their rows -/
def ofRows (rows : List (List Nat)) : F2 := fun i j => (rows.getD i []).getD j 46
theorem ofRows_ok {rows : List (List Nat)} (h : isBS rows = true) : Sh rows.length (rows.headD []).length ∧ BD rows.length (rows.headD []).length (ofRows rows) ∧ D.tup (rows.map .str) = Bo rows.length (rows.headD []).length (ofRows rows) := by
  unfold isBS at h
  simp only [Bool.and_eq_true, decide_eq_true_eq, List.all_eq_true] at h
  obtain ⟨h1, h2, h3, h4, h5, h6⟩ := h
  refine ⟨⟨h1, h2, h3, h4, by rw [Nat.mul_comm]; exact h5⟩, ⟨?_, ?_⟩, ?_⟩
  · intro i j
    unfold ofRows
    rw [List.getD_eq_getElem?_getD, List.getD_eq_getElem?_getD]
    cases hi : rows[i]? with
    | none => simp [okS]
    | some s =>
      have hs := List.mem_of_getElem? hi
      simp only [Option.getD_some]
      cases hj : s[j]? with
      | none => simp [okS]
      | some c => exact (h6 s hs).2 c (List.mem_of_getElem? hj)
  · intro i j hij
    unfold ofRows
    rw [List.getD_eq_getElem?_getD, List.getD_eq_getElem?_getD]
    cases hi : rows[i]? with
    | none => simp
    | some s =>
      have hs := List.mem_of_getElem? hi
      simp only [Option.getD_some]
      have hlt : i < rows.length := by
        apply Classical.byContradiction
        intro z
        rw [List.getElem?_eq_none (by omega)] at hi
        cases hi
      have hl := (h6 s hs).1
      rw [List.getElem?_eq_none]
      · rfl
      · have : ¬ j < (rows.headD []).length := fun z => hij ⟨hlt, z⟩
        omega
  · unfold Bo
    congr 1
    apply List.ext_getElem
    · simp
    · intro i a b
      simp only [List.getElem_map, List.getElem_range]
      congr 1
      have hi : i < rows.length := by simpa using a
      have hl := (h6 _ (List.getElem_mem hi)).1
      unfold row ofRows
      apply List.ext_getElem
      · simp [hl]
      · intro j c d
        simp only [List.getElem_map, List.getElem_range]
        have e : rows.getD i [] = rows[i] := by rw [List.getD_eq_getElem?_getD, List.getElem?_eq_getElem hi]; rfl
        rw [e, List.getD_eq_getElem?_getD, List.getElem?_eq_getElem c]
        rfl
/-! ### all boards of a shape -/
section
variable {R C : Nat} {f g x : F2}
theorem draw_BD (hf : BD R C f) {S : List (Nat × Nat)} (hS : ∀ p ∈ S, p ∈ cellsOf R C) : BD R C (draw f S) where
  ok i j := by
    unfold draw
    split
    · exact hf.ok i j
    · split <;> decide
  out i j h := by
    unfold draw
    rw [hf.out i j h, if_neg (by decide), if_neg]
    intro z
    exact h (mem_cells.mp (hS _ z))
theorem draw_SS {S : List (Nat × Nat)} : SS (draw f S) f := fun i j => by
  unfold draw
  cases hl : laS (f i j)
  · simp only [Bool.false_eq_true, if_false]
    split
    · exact ⟨by decide, fun z => by cases z⟩
    · exact ⟨by decide, fun z => by cases z⟩
  · rw [if_pos rfl]
    exact ⟨hl, fun _ => by rfl⟩
theorem free_cellsOf {p : Nat × Nat} (h : p ∈ freeOf R C f) : p ∈ cellsOf R C := (List.mem_filter.mp h).1
/-! ### small enough -/
/-! ### forerunners -/
/-! ### lists and tuples of boards -/
end
end FB
namespace FB
/-! ### freezing -/
section
variable {R C : Nat} {f : F2} {S : List (Nat × Nat)} {t : Nat}
/-- ice at all free cells -/
def whole (R C : Nat) (f : F2) : F2 := draw f (freeOf R C f)
/-! ### choosing cells -/
end
end FB
namespace FB
/-! ### more ice -/
section
variable {R C : Nat} {f g x y : F2} {S U : List (Nat × Nat)}
/-! ### keeping water -/
/-- ice at all free cells but S -/
def wout (R C : Nat) (f : F2) (S : List (Nat × Nat)) : F2 := draw f ((freeOf R C f).filter fun p => !decide (p ∈ S))
def kpP (R C : Nat) (f : F2) (S : List (Nat × Nat)) (c : Nat × Nat) : Bool := decide (2 * nI R C (wout R C f S) c ≤ nN R C c)
def keepB (R C : Nat) (f : F2) (S : List (Nat × Nat)) : Bool := S.all (kpP R C f S)
/-! ### the greatest keeping set -/
/-! ### sorted(set(cells)) -/
end
end FB
namespace FB
/-! ### two boards of a shape -/
section
variable {R C R' C' : Nat} {f g x y : F2}
def bareF (f : F2) : F2 := fun i j => if f i j = 35 then 46 else f i j
theorem repl_row {gg : Nat → Nat} (hC : C ≤ 100) : mRepl 35 46 (.str (row C gg)) = some (.str (row C fun j => if gg j = 35 then 46 else gg j)) := by
  show (if _ then _ else _) = _
  rw [if_pos (by simp [row]; omega)]
  unfold row
  rw [List.map_map]
  rfl
theorem bare_ok (h : Sh R C) : D_bare [Bo R C f] = .ok (Bo R C (bareF f)) := by
  have h1 := h.r4
  have h2 := h.c4
  simp only [D_bare, B_bare, run1, run2, run3, run4, Nat.reduceSub, List.replicate_succ, List.replicate_zero, Nat.reduceAdd, seq_ap, set_ap, setK_ap, ret_ap, retK_ap, if_ap, ifK_ap, nil_ap, exp_ap, expK_ap, par_ap, parA_ap, parB_ap, asg_ap, asgK_ap, asgQ_ap, aug_ap, augQ_ap, augK_ap, augL_ap, raise_ap, newL_ap, newK_ap, app_ap, appQ_ap, appK_ap, appL_ap, frz_ap, frzQ_ap, tv_ap, an_ap, anK_ap, or_ap, orK_ap, no_ap, noK_ap, ty_ap, e1_ap, e1K_ap, e2_ap, e2K_ap, e2L_ap, v_ap, vQ_ap, c_ap, call_ap, callK_ap, eB_ap, eBK_ap, aC_ap, aCA_ap, aCB_ap, aN_ap, tup_ap, tupK_ap, lst_ap, lstK_ap, eIf_ap, eIfK_ap, eAn_ap, eAnK_ap, eOr_ap, eOrK_ap, okF_ap, eNo_ap, ch_ap, chA_ap, chB_ap, chC_ap, ixO_ap, ixQ_own, ixQ_bor, ixK_ap, ixL_own, ixL_bor, callO_ap, coQ_ap, coK_ap, coL_ap, tow_ok, iL_ap, iT_ap, iS_ap, iEnum_ap, enK_ap, iR_ap, sl_ap, slA_ap, slB_ap, slC_ap, gNo_ap, gSo_ap, gsK_ap, setAll, at_ok, at_exc, lf_some, chK_t, chK_f, to_ok, to_exc, blK_ap, bK_ap, nK_ap, flK_nx, flK_ret, lK_ap, uK_ap, f_nx, f_ret, f_exc, List.getElem?_cons_zero, List.getElem?_cons_succ, List.set_cons_zero, List.set_cons_succ, cond_true, cond_false, Bool.not_true, Bool.not_false, Bool.false_eq_true, if_false]
  rw [lc_A (List.range R) (fun i => .str (row C (f i))) (fun i => .str (row C (bareF f i)))]
  · simp only [seq_ap, set_ap, setK_ap, ret_ap, retK_ap, if_ap, ifK_ap, nil_ap, exp_ap, expK_ap, par_ap, parA_ap, parB_ap, asg_ap, asgK_ap, asgQ_ap, aug_ap, augQ_ap, augK_ap, augL_ap, raise_ap, newL_ap, newK_ap, app_ap, appQ_ap, appK_ap, appL_ap, frz_ap, frzQ_ap, tv_ap, an_ap, anK_ap, or_ap, orK_ap, no_ap, noK_ap, ty_ap, e1_ap, e1K_ap, e2_ap, e2K_ap, e2L_ap, v_ap, vQ_ap, c_ap, call_ap, callK_ap, eB_ap, eBK_ap, aC_ap, aCA_ap, aCB_ap, aN_ap, tup_ap, tupK_ap, lst_ap, lstK_ap, eIf_ap, eIfK_ap, eAn_ap, eAnK_ap, eOr_ap, eOrK_ap, okF_ap, eNo_ap, ch_ap, chA_ap, chB_ap, chC_ap, ixO_ap, ixQ_own, ixQ_bor, ixK_ap, ixL_own, ixL_bor, callO_ap, coQ_ap, coK_ap, coL_ap, tow_ok, iL_ap, iT_ap, iS_ap, iEnum_ap, enK_ap, iR_ap, sl_ap, slA_ap, slB_ap, slC_ap, gNo_ap, gSo_ap, gsK_ap, setAll, at_ok, at_exc, lf_some, chK_t, chK_f, to_ok, to_exc, blK_ap, bK_ap, nK_ap, flK_nx, flK_ret, lK_ap, uK_ap, f_nx, f_ret, f_exc, List.getElem?_cons_zero, List.getElem?_cons_succ, List.set_cons_zero, List.set_cons_succ, cond_true, cond_false, Bool.not_true, Bool.not_false, Bool.false_eq_true, if_false, tuple_rows]
  · simp only [seq_ap, set_ap, setK_ap, ret_ap, retK_ap, if_ap, ifK_ap, nil_ap, exp_ap, expK_ap, par_ap, parA_ap, parB_ap, asg_ap, asgK_ap, asgQ_ap, aug_ap, augQ_ap, augK_ap, augL_ap, raise_ap, newL_ap, newK_ap, app_ap, appQ_ap, appK_ap, appL_ap, frz_ap, frzQ_ap, tv_ap, an_ap, anK_ap, or_ap, orK_ap, no_ap, noK_ap, ty_ap, e1_ap, e1K_ap, e2_ap, e2K_ap, e2L_ap, v_ap, vQ_ap, c_ap, call_ap, callK_ap, eB_ap, eBK_ap, aC_ap, aCA_ap, aCB_ap, aN_ap, tup_ap, tupK_ap, lst_ap, lstK_ap, eIf_ap, eIfK_ap, eAn_ap, eAnK_ap, eOr_ap, eOrK_ap, okF_ap, eNo_ap, ch_ap, chA_ap, chB_ap, chC_ap, ixO_ap, ixQ_own, ixQ_bor, ixK_ap, ixL_own, ixL_bor, callO_ap, coQ_ap, coK_ap, coL_ap, tow_ok, iL_ap, iT_ap, iS_ap, iEnum_ap, enK_ap, iR_ap, sl_ap, slA_ap, slB_ap, slC_ap, gNo_ap, gSo_ap, gsK_ap, setAll, at_ok, at_exc, lf_some, chK_t, chK_f, to_ok, to_exc, blK_ap, bK_ap, nK_ap, flK_nx, flK_ret, lK_ap, uK_ap, f_nx, f_ret, f_exc, List.getElem?_cons_zero, List.getElem?_cons_succ, List.set_cons_zero, List.set_cons_succ, cond_true, cond_false, Bool.not_true, Bool.not_false, Bool.false_eq_true, if_false, uK_Bo]
  · exact ⟨rfl, ltL rfl, by simp [lim]; omega⟩
  · intro i hi
    simp only [seq_ap, set_ap, setK_ap, ret_ap, retK_ap, if_ap, ifK_ap, nil_ap, exp_ap, expK_ap, par_ap, parA_ap, parB_ap, asg_ap, asgK_ap, asgQ_ap, aug_ap, augQ_ap, augK_ap, augL_ap, raise_ap, newL_ap, newK_ap, app_ap, appQ_ap, appK_ap, appL_ap, frz_ap, frzQ_ap, tv_ap, an_ap, anK_ap, or_ap, orK_ap, no_ap, noK_ap, ty_ap, e1_ap, e1K_ap, e2_ap, e2K_ap, e2L_ap, v_ap, vQ_ap, c_ap, call_ap, callK_ap, eB_ap, eBK_ap, aC_ap, aCA_ap, aCB_ap, aN_ap, tup_ap, tupK_ap, lst_ap, lstK_ap, eIf_ap, eIfK_ap, eAn_ap, eAnK_ap, eOr_ap, eOrK_ap, okF_ap, eNo_ap, ch_ap, chA_ap, chB_ap, chC_ap, ixO_ap, ixQ_own, ixQ_bor, ixK_ap, ixL_own, ixL_bor, callO_ap, coQ_ap, coK_ap, coL_ap, tow_ok, iL_ap, iT_ap, iS_ap, iEnum_ap, enK_ap, iR_ap, sl_ap, slA_ap, slB_ap, slC_ap, gNo_ap, gSo_ap, gsK_ap, setAll, at_ok, at_exc, lf_some, chK_t, chK_f, to_ok, to_exc, blK_ap, bK_ap, nK_ap, flK_nx, flK_ret, lK_ap, uK_ap, f_nx, f_ret, f_exc, List.getElem?_cons_zero, List.getElem?_cons_succ, List.set_cons_zero, List.set_cons_succ, cond_true, cond_false, Bool.not_true, Bool.not_false, Bool.false_eq_true, if_false, repl_row (gg := f i) (show C ≤ 100 by omega)]
    rfl
theorem bare_SS (hf : BD R C f) (hg : BD R C g) : Bo R C (bareF f) = Bo R C (bareF g) ↔ SS f g := by
  constructor
  · intro h i j
    by_cases hij : i < R ∧ j < C
    · have e := bo_inj h i j hij.1 hij.2
      unfold bareF at e
      rcases okS_cases (hf.ok i j) with a | a | a | a <;> rcases okS_cases (hg.ok i j) with b | b | b | b <;> rw [a, b] at e ⊢ <;> first | exact ⟨rfl, fun _ => rfl⟩ | (exfalso; revert e; decide) | exact ⟨rfl, fun z => by cases z⟩
    · rw [hf.out i j hij, hg.out i j hij]
      exact ⟨rfl, fun _ => rfl⟩
  · intro h
    apply bo_eq
    intro i j _ _
    unfold bareF
    have hs := h i j
    rcases okS_cases (hf.ok i j) with a | a | a | a <;> rcases okS_cases (hg.ok i j) with b | b | b | b <;> rw [a, b] at hs ⊢ <;> first | rfl | (exfalso; exact absurd hs.1 (by decide)) | (exfalso; exact absurd (hs.2 rfl) (by decide))
theorem Bo_size (hR : 1 ≤ R) (h : Bo R C x = Bo R' C' y) : R = R' ∧ C = C' := by
  have e1 : R = R' := by
    have := congrArg (fun d => bLen [d]) h
    simp only [len_Bo] at this
    have := D.int.inj (Option.some.inj this)
    omega
  subst e1
  refine ⟨rfl, ?_⟩
  have := congrArg (fun d => (opIx d (.int 0)).bind fun d => bLen [d]) h
  simp only [ix_Bo0 (show 0 < R by omega), Option.bind_some, len_row] at this
  have := D.int.inj (Option.some.inj this)
  omega
theorem needp_ok (h : Sh R C) (hf : BD R C f) (hg : BD R C g) (hs : SS f g) : D_need_pair [Bo R C f, Bo R C g] = .ok .non := by
  have e := (bare_SS hf hg).mpr hs
  simp only [D_need_pair, B_need_pair, run1, run2, run3, run4, Nat.reduceSub, List.replicate_succ, List.replicate_zero, Nat.reduceAdd, seq_ap, set_ap, setK_ap, ret_ap, retK_ap, if_ap, ifK_ap, nil_ap, exp_ap, expK_ap, par_ap, parA_ap, parB_ap, asg_ap, asgK_ap, asgQ_ap, aug_ap, augQ_ap, augK_ap, augL_ap, raise_ap, newL_ap, newK_ap, app_ap, appQ_ap, appK_ap, appL_ap, frz_ap, frzQ_ap, tv_ap, an_ap, anK_ap, or_ap, orK_ap, no_ap, noK_ap, ty_ap, e1_ap, e1K_ap, e2_ap, e2K_ap, e2L_ap, v_ap, vQ_ap, c_ap, call_ap, callK_ap, eB_ap, eBK_ap, aC_ap, aCA_ap, aCB_ap, aN_ap, tup_ap, tupK_ap, lst_ap, lstK_ap, eIf_ap, eIfK_ap, eAn_ap, eAnK_ap, eOr_ap, eOrK_ap, okF_ap, eNo_ap, ch_ap, chA_ap, chB_ap, chC_ap, ixO_ap, ixQ_own, ixQ_bor, ixK_ap, ixL_own, ixL_bor, callO_ap, coQ_ap, coK_ap, coL_ap, tow_ok, iL_ap, iT_ap, iS_ap, iEnum_ap, enK_ap, iR_ap, sl_ap, slA_ap, slB_ap, slC_ap, gNo_ap, gSo_ap, gsK_ap, setAll, at_ok, at_exc, lf_some, chK_t, chK_f, to_ok, to_exc, blK_ap, bK_ap, nK_ap, flK_nx, flK_ret, lK_ap, uK_ap, f_nx, f_ret, f_exc, List.getElem?_cons_zero, List.getElem?_cons_succ, List.set_cons_zero, List.set_cons_succ, cond_true, cond_false, Bool.not_true, Bool.not_false, Bool.false_eq_true, if_false, needb_ok h hf.ok, needb_ok h hg.ok, bare_ok h, ne_BB, eqB_t e]
theorem needp_un (h : Sh R C) (h' : Sh R' C') (hf : BD R C f) (hg : BD R' C' g) (hne : ¬ (R = R' ∧ C = C')) : D_need_pair [Bo R C f, Bo R' C' g] = .exc 7 := by
  have e : Bo R C (bareF f) ≠ Bo R' C' (bareF g) := fun z => hne (Bo_size h.r1 z)
  simp only [D_need_pair, B_need_pair, run1, run2, run3, run4, Nat.reduceSub, List.replicate_succ, List.replicate_zero, Nat.reduceAdd, seq_ap, set_ap, setK_ap, ret_ap, retK_ap, if_ap, ifK_ap, nil_ap, exp_ap, expK_ap, par_ap, parA_ap, parB_ap, asg_ap, asgK_ap, asgQ_ap, aug_ap, augQ_ap, augK_ap, augL_ap, raise_ap, newL_ap, newK_ap, app_ap, appQ_ap, appK_ap, appL_ap, frz_ap, frzQ_ap, tv_ap, an_ap, anK_ap, or_ap, orK_ap, no_ap, noK_ap, ty_ap, e1_ap, e1K_ap, e2_ap, e2K_ap, e2L_ap, v_ap, vQ_ap, c_ap, call_ap, callK_ap, eB_ap, eBK_ap, aC_ap, aCA_ap, aCB_ap, aN_ap, tup_ap, tupK_ap, lst_ap, lstK_ap, eIf_ap, eIfK_ap, eAn_ap, eAnK_ap, eOr_ap, eOrK_ap, okF_ap, eNo_ap, ch_ap, chA_ap, chB_ap, chC_ap, ixO_ap, ixQ_own, ixQ_bor, ixK_ap, ixL_own, ixL_bor, callO_ap, coQ_ap, coK_ap, coL_ap, tow_ok, iL_ap, iT_ap, iS_ap, iEnum_ap, enK_ap, iR_ap, sl_ap, slA_ap, slB_ap, slC_ap, gNo_ap, gSo_ap, gsK_ap, setAll, at_ok, at_exc, lf_some, chK_t, chK_f, to_ok, to_exc, blK_ap, bK_ap, nK_ap, flK_nx, flK_ret, lK_ap, uK_ap, f_nx, f_ret, f_exc, List.getElem?_cons_zero, List.getElem?_cons_succ, List.set_cons_zero, List.set_cons_succ, cond_true, cond_false, Bool.not_true, Bool.not_false, Bool.false_eq_true, if_false, needb_ok h hf.ok, needb_ok h' hg.ok, bare_ok h, bare_ok h', ne_BB, eqB_f e]
theorem meet_exc {d e : D} {c : Nat} (hd : D_need_pair [e, d] = .exc c) : D_meet [e, d] = .exc c := by
  simp only [D_meet, B_meet, run1, run2, run3, run4, Nat.reduceSub, List.replicate_succ, List.replicate_zero, Nat.reduceAdd, seq_ap, set_ap, setK_ap, ret_ap, retK_ap, if_ap, ifK_ap, nil_ap, exp_ap, expK_ap, par_ap, parA_ap, parB_ap, asg_ap, asgK_ap, asgQ_ap, aug_ap, augQ_ap, augK_ap, augL_ap, raise_ap, newL_ap, newK_ap, app_ap, appQ_ap, appK_ap, appL_ap, frz_ap, frzQ_ap, tv_ap, an_ap, anK_ap, or_ap, orK_ap, no_ap, noK_ap, ty_ap, e1_ap, e1K_ap, e2_ap, e2K_ap, e2L_ap, v_ap, vQ_ap, c_ap, call_ap, callK_ap, eB_ap, eBK_ap, aC_ap, aCA_ap, aCB_ap, aN_ap, tup_ap, tupK_ap, lst_ap, lstK_ap, eIf_ap, eIfK_ap, eAn_ap, eAnK_ap, eOr_ap, eOrK_ap, okF_ap, eNo_ap, ch_ap, chA_ap, chB_ap, chC_ap, ixO_ap, ixQ_own, ixQ_bor, ixK_ap, ixL_own, ixL_bor, callO_ap, coQ_ap, coK_ap, coL_ap, tow_ok, iL_ap, iT_ap, iS_ap, iEnum_ap, enK_ap, iR_ap, sl_ap, slA_ap, slB_ap, slC_ap, gNo_ap, gSo_ap, gsK_ap, setAll, at_ok, at_exc, lf_some, chK_t, chK_f, to_ok, to_exc, blK_ap, bK_ap, nK_ap, flK_nx, flK_ret, lK_ap, uK_ap, f_nx, f_ret, f_exc, List.getElem?_cons_zero, List.getElem?_cons_succ, List.set_cons_zero, List.set_cons_succ, cond_true, cond_false, Bool.not_true, Bool.not_false, Bool.false_eq_true, if_false, hd]
/-! ### meeting -/
def eqT (R C : Nat) (f g : F2) (t : Nat) : Bool := D.eqv (Bo R C (tn R C f t)) (Bo R C (tn R C g t))
def natD : Option Nat → D
  | none => .non
  | some t => .int t
theorem meet_loop (h : Sh R C) : ∀ (m k : Nat) (s2 : Sl), (∃ t r', (List.range' k m).find? (eqT R C f g) = some t ∧ forGo (gN 2) (sSeq (sIf (tV (e2 opEq (eV 0) (eV 1))) (sRet (eV 2)) (sNil)) (sPar 0 1 (eCall D_ticked (aC (eV 0) aN)) (eCall D_ticked (aC (eV 1) aN)))) ((List.range' k m).map fun i => .int (i : Nat)) [.dat (Bo R C (tn R C f k)), .dat (Bo R C (tn R C g k)), s2] = .ok (.ret (.int t)) r') ∨
    ((List.range' k m).find? (eqT R C f g) = none ∧ ∃ r', forGo (gN 2) (sSeq (sIf (tV (e2 opEq (eV 0) (eV 1))) (sRet (eV 2)) (sNil)) (sPar 0 1 (eCall D_ticked (aC (eV 0) aN)) (eCall D_ticked (aC (eV 1) aN)))) ((List.range' k m).map fun i => .int (i : Nat)) [.dat (Bo R C (tn R C f k)), .dat (Bo R C (tn R C g k)), s2] = .ok .nx r')
  | 0, k, s2 => .inr ⟨rfl, _, rfl⟩
  | m + 1, k, s2 => by
    rw [List.range'_succ]
    cases he : eqT R C f g k
    · have e1 : (k :: List.range' (k + 1) m).find? (eqT R C f g) = (List.range' (k + 1) m).find? (eqT R C f g) := List.find?_cons_of_neg (by simp [he])
      have e2' : forGo (gN 2) (sSeq (sIf (tV (e2 opEq (eV 0) (eV 1))) (sRet (eV 2)) (sNil)) (sPar 0 1 (eCall D_ticked (aC (eV 0) aN)) (eCall D_ticked (aC (eV 1) aN)))) ((k :: List.range' (k + 1) m).map fun i => .int (i : Nat)) [.dat (Bo R C (tn R C f k)), .dat (Bo R C (tn R C g k)), s2] =
          forGo (gN 2) (sSeq (sIf (tV (e2 opEq (eV 0) (eV 1))) (sRet (eV 2)) (sNil)) (sPar 0 1 (eCall D_ticked (aC (eV 0) aN)) (eCall D_ticked (aC (eV 1) aN)))) ((List.range' (k + 1) m).map fun i => .int (i : Nat)) [.dat (Bo R C (tn R C f (k + 1))), .dat (Bo R C (tn R C g (k + 1))), .dat (.int k)] := by
        unfold eqT at he
        rw [List.map_cons, forGo]
        simp only [gN, seq_ap, set_ap, setK_ap, ret_ap, retK_ap, if_ap, ifK_ap, nil_ap, exp_ap, expK_ap, par_ap, parA_ap, parB_ap, asg_ap, asgK_ap, asgQ_ap, aug_ap, augQ_ap, augK_ap, augL_ap, raise_ap, newL_ap, newK_ap, app_ap, appQ_ap, appK_ap, appL_ap, frz_ap, frzQ_ap, tv_ap, an_ap, anK_ap, or_ap, orK_ap, no_ap, noK_ap, ty_ap, e1_ap, e1K_ap, e2_ap, e2K_ap, e2L_ap, v_ap, vQ_ap, c_ap, call_ap, callK_ap, eB_ap, eBK_ap, aC_ap, aCA_ap, aCB_ap, aN_ap, tup_ap, tupK_ap, lst_ap, lstK_ap, eIf_ap, eIfK_ap, eAn_ap, eAnK_ap, eOr_ap, eOrK_ap, okF_ap, eNo_ap, ch_ap, chA_ap, chB_ap, chC_ap, ixO_ap, ixQ_own, ixQ_bor, ixK_ap, ixL_own, ixL_bor, callO_ap, coQ_ap, coK_ap, coL_ap, tow_ok, iL_ap, iT_ap, iS_ap, iEnum_ap, enK_ap, iR_ap, sl_ap, slA_ap, slB_ap, slC_ap, gNo_ap, gSo_ap, gsK_ap, setAll, at_ok, at_exc, lf_some, chK_t, chK_f, to_ok, to_exc, blK_ap, bK_ap, nK_ap, flK_nx, flK_ret, lK_ap, uK_ap, f_nx, f_ret, f_exc, List.getElem?_cons_zero, List.getElem?_cons_succ, List.set_cons_zero, List.set_cons_succ, cond_true, cond_false, Bool.not_true, Bool.not_false, Bool.false_eq_true, if_false, eq_BB, he, ticked_ok h]
        rfl
      rw [e1, e2']
      exact meet_loop h m (k + 1) (.dat (.int k))
    · left
      refine ⟨k, [.dat (Bo R C (tn R C f k)), .dat (Bo R C (tn R C g k)), .dat (.int k)], List.find?_cons_of_pos he, ?_⟩
      unfold eqT at he
      rw [List.map_cons, forGo]
      simp only [gN, seq_ap, set_ap, setK_ap, ret_ap, retK_ap, if_ap, ifK_ap, nil_ap, exp_ap, expK_ap, par_ap, parA_ap, parB_ap, asg_ap, asgK_ap, asgQ_ap, aug_ap, augQ_ap, augK_ap, augL_ap, raise_ap, newL_ap, newK_ap, app_ap, appQ_ap, appK_ap, appL_ap, frz_ap, frzQ_ap, tv_ap, an_ap, anK_ap, or_ap, orK_ap, no_ap, noK_ap, ty_ap, e1_ap, e1K_ap, e2_ap, e2K_ap, e2L_ap, v_ap, vQ_ap, c_ap, call_ap, callK_ap, eB_ap, eBK_ap, aC_ap, aCA_ap, aCB_ap, aN_ap, tup_ap, tupK_ap, lst_ap, lstK_ap, eIf_ap, eIfK_ap, eAn_ap, eAnK_ap, eOr_ap, eOrK_ap, okF_ap, eNo_ap, ch_ap, chA_ap, chB_ap, chC_ap, ixO_ap, ixQ_own, ixQ_bor, ixK_ap, ixL_own, ixL_bor, callO_ap, coQ_ap, coK_ap, coL_ap, tow_ok, iL_ap, iT_ap, iS_ap, iEnum_ap, enK_ap, iR_ap, sl_ap, slA_ap, slB_ap, slC_ap, gNo_ap, gSo_ap, gsK_ap, setAll, at_ok, at_exc, lf_some, chK_t, chK_f, to_ok, to_exc, blK_ap, bK_ap, nK_ap, flK_nx, flK_ret, lK_ap, uK_ap, f_nx, f_ret, f_exc, List.getElem?_cons_zero, List.getElem?_cons_succ, List.set_cons_zero, List.set_cons_succ, cond_true, cond_false, Bool.not_true, Bool.not_false, Bool.false_eq_true, if_false, eq_BB, he]
def meetS (R C : Nat) (f g : F2) (n : Nat) : Option Nat := (List.range n).find? (eqT R C f g)
theorem meet_ok (h : Sh R C) (hf : BD R C f) (hg : BD R C g) (hs : SS f g) {t u : Nat} (ht : Fate R C f t) (hu : Fate R C g u) (ht80 : t ≤ 80) (hu80 : u ≤ 80) : D_meet [Bo R C f, Bo R C g] = .ok (natD (meetS R C f g (max t u + 1))) := by
  have e0 : ∀ x y : Int, opIx (.tup [.int x, .int y]) (.int 0) = some (.int x) := fun _ _ => rfl
  have em : bMax [.int (t : Int), .int (u : Int)] = some (.int ((max t u : Nat) : Int)) := by
    show some (D.int (if (u : Int) > t then (u : Int) else t)) = _
    congr 2
    split <;> omega
  have en : (((max t u : Nat) : Int) + 1) = ((max t u + 1 : Nat) : Int) := by omega
  simp only [D_meet, B_meet, run1, run2, run3, run4, Nat.reduceSub, List.replicate_succ, List.replicate_zero, Nat.reduceAdd, seq_ap, set_ap, setK_ap, ret_ap, retK_ap, if_ap, ifK_ap, nil_ap, exp_ap, expK_ap, par_ap, parA_ap, parB_ap, asg_ap, asgK_ap, asgQ_ap, aug_ap, augQ_ap, augK_ap, augL_ap, raise_ap, newL_ap, newK_ap, app_ap, appQ_ap, appK_ap, appL_ap, frz_ap, frzQ_ap, tv_ap, an_ap, anK_ap, or_ap, orK_ap, no_ap, noK_ap, ty_ap, e1_ap, e1K_ap, e2_ap, e2K_ap, e2L_ap, v_ap, vQ_ap, c_ap, call_ap, callK_ap, eB_ap, eBK_ap, aC_ap, aCA_ap, aCB_ap, aN_ap, tup_ap, tupK_ap, lst_ap, lstK_ap, eIf_ap, eIfK_ap, eAn_ap, eAnK_ap, eOr_ap, eOrK_ap, okF_ap, eNo_ap, ch_ap, chA_ap, chB_ap, chC_ap, ixO_ap, ixQ_own, ixQ_bor, ixK_ap, ixL_own, ixL_bor, callO_ap, coQ_ap, coK_ap, coL_ap, tow_ok, iL_ap, iT_ap, iS_ap, iEnum_ap, enK_ap, iR_ap, sl_ap, slA_ap, slB_ap, slC_ap, gNo_ap, gSo_ap, gsK_ap, setAll, at_ok, at_exc, lf_some, chK_t, chK_f, to_ok, to_exc, blK_ap, bK_ap, nK_ap, flK_nx, flK_ret, lK_ap, uK_ap, f_nx, f_ret, f_exc, List.getElem?_cons_zero, List.getElem?_cons_succ, List.set_cons_zero, List.set_cons_succ, cond_true, cond_false, Bool.not_true, Bool.not_false, Bool.false_eq_true, if_false, needp_ok h hf hg hs]
  rw [for_ap]
  simp only [seq_ap, set_ap, setK_ap, ret_ap, retK_ap, if_ap, ifK_ap, nil_ap, exp_ap, expK_ap, par_ap, parA_ap, parB_ap, asg_ap, asgK_ap, asgQ_ap, aug_ap, augQ_ap, augK_ap, augL_ap, raise_ap, newL_ap, newK_ap, app_ap, appQ_ap, appK_ap, appL_ap, frz_ap, frzQ_ap, tv_ap, an_ap, anK_ap, or_ap, orK_ap, no_ap, noK_ap, ty_ap, e1_ap, e1K_ap, e2_ap, e2K_ap, e2L_ap, v_ap, vQ_ap, c_ap, call_ap, callK_ap, eB_ap, eBK_ap, aC_ap, aCA_ap, aCB_ap, aN_ap, tup_ap, tupK_ap, lst_ap, lstK_ap, eIf_ap, eIfK_ap, eAn_ap, eAnK_ap, eOr_ap, eOrK_ap, okF_ap, eNo_ap, ch_ap, chA_ap, chB_ap, chC_ap, ixO_ap, ixQ_own, ixQ_bor, ixK_ap, ixL_own, ixL_bor, callO_ap, coQ_ap, coK_ap, coL_ap, tow_ok, iL_ap, iT_ap, iS_ap, iEnum_ap, enK_ap, iR_ap, sl_ap, slA_ap, slB_ap, slC_ap, gNo_ap, gSo_ap, gsK_ap, setAll, at_ok, at_exc, lf_some, chK_t, chK_f, to_ok, to_exc, blK_ap, bK_ap, nK_ap, flK_nx, flK_ret, lK_ap, uK_ap, f_nx, f_ret, f_exc, List.getElem?_cons_zero, List.getElem?_cons_succ, List.set_cons_zero, List.set_cons_succ, cond_true, cond_false, Bool.not_true, Bool.not_false, Bool.false_eq_true, if_false, fateof_ok h hf ht (by omega), fateof_ok h hg hu (by omega), e0, em, add_int, en, rgK_nat (show max t u + 1 ≤ 100000 by omega)]
  rw [List.range_eq_range']
  unfold meetS
  rw [List.range_eq_range']
  rcases meet_loop (f := f) (g := g) h (max t u + 1) 0 .un with ⟨k, r', i1, i2⟩ | ⟨i1, r', i2⟩
  · rw [i1]
    have i2 : forGo _ _ _ [.dat (Bo R C f), .dat (Bo R C g), .un] = _ := i2
    rw [i2]
    simp only [seq_ap, set_ap, setK_ap, ret_ap, retK_ap, if_ap, ifK_ap, nil_ap, exp_ap, expK_ap, par_ap, parA_ap, parB_ap, asg_ap, asgK_ap, asgQ_ap, aug_ap, augQ_ap, augK_ap, augL_ap, raise_ap, newL_ap, newK_ap, app_ap, appQ_ap, appK_ap, appL_ap, frz_ap, frzQ_ap, tv_ap, an_ap, anK_ap, or_ap, orK_ap, no_ap, noK_ap, ty_ap, e1_ap, e1K_ap, e2_ap, e2K_ap, e2L_ap, v_ap, vQ_ap, c_ap, call_ap, callK_ap, eB_ap, eBK_ap, aC_ap, aCA_ap, aCB_ap, aN_ap, tup_ap, tupK_ap, lst_ap, lstK_ap, eIf_ap, eIfK_ap, eAn_ap, eAnK_ap, eOr_ap, eOrK_ap, okF_ap, eNo_ap, ch_ap, chA_ap, chB_ap, chC_ap, ixO_ap, ixQ_own, ixQ_bor, ixK_ap, ixL_own, ixL_bor, callO_ap, coQ_ap, coK_ap, coL_ap, tow_ok, iL_ap, iT_ap, iS_ap, iEnum_ap, enK_ap, iR_ap, sl_ap, slA_ap, slB_ap, slC_ap, gNo_ap, gSo_ap, gsK_ap, setAll, at_ok, at_exc, lf_some, chK_t, chK_f, to_ok, to_exc, blK_ap, bK_ap, nK_ap, flK_nx, flK_ret, lK_ap, uK_ap, f_nx, f_ret, f_exc, List.getElem?_cons_zero, List.getElem?_cons_succ, List.set_cons_zero, List.set_cons_succ, cond_true, cond_false, Bool.not_true, Bool.not_false, Bool.false_eq_true, if_false]
    rfl
  · rw [i1]
    have i2 : forGo _ _ _ [.dat (Bo R C f), .dat (Bo R C g), .un] = _ := i2
    rw [i2]
    simp only [seq_ap, set_ap, setK_ap, ret_ap, retK_ap, if_ap, ifK_ap, nil_ap, exp_ap, expK_ap, par_ap, parA_ap, parB_ap, asg_ap, asgK_ap, asgQ_ap, aug_ap, augQ_ap, augK_ap, augL_ap, raise_ap, newL_ap, newK_ap, app_ap, appQ_ap, appK_ap, appL_ap, frz_ap, frzQ_ap, tv_ap, an_ap, anK_ap, or_ap, orK_ap, no_ap, noK_ap, ty_ap, e1_ap, e1K_ap, e2_ap, e2K_ap, e2L_ap, v_ap, vQ_ap, c_ap, call_ap, callK_ap, eB_ap, eBK_ap, aC_ap, aCA_ap, aCB_ap, aN_ap, tup_ap, tupK_ap, lst_ap, lstK_ap, eIf_ap, eIfK_ap, eAn_ap, eAnK_ap, eOr_ap, eOrK_ap, okF_ap, eNo_ap, ch_ap, chA_ap, chB_ap, chC_ap, ixO_ap, ixQ_own, ixQ_bor, ixK_ap, ixL_own, ixL_bor, callO_ap, coQ_ap, coK_ap, coL_ap, tow_ok, iL_ap, iT_ap, iS_ap, iEnum_ap, enK_ap, iR_ap, sl_ap, slA_ap, slB_ap, slC_ap, gNo_ap, gSo_ap, gsK_ap, setAll, at_ok, at_exc, lf_some, chK_t, chK_f, to_ok, to_exc, blK_ap, bK_ap, nK_ap, flK_nx, flK_ret, lK_ap, uK_ap, f_nx, f_ret, f_exc, List.getElem?_cons_zero, List.getElem?_cons_succ, List.set_cons_zero, List.set_cons_succ, cond_true, cond_false, Bool.not_true, Bool.not_false, Bool.false_eq_true, if_false]
    rfl
theorem eqT_iff (hf : BD R C f) (hg : BD R C g) {t : Nat} : eqT R C f g t = true ↔ tn R C f t = tn R C g t := by
  unfold eqT
  rw [eqv_iff _ _ pu_Bo pu_Bo]
  exact ⟨bo_ext (tn_BD hf t) (tn_BD hg t), fun z => by rw [z]⟩
theorem eqT_later (hf : BD R C f) (hg : BD R C g) {t n : Nat} (h : tn R C f t = tn R C g t) (hn : t ≤ n) : tn R C f n = tn R C g n := by
  obtain ⟨k, rfl⟩ : ∃ k, n = t + k := ⟨n - t, by omega⟩
  rw [tn_add, tn_add, h]
/-- boards that meet, meet by the time both have come to their fate -/
theorem eqT_early (hf : BD R C f) (hg : BD R C g) {t u n : Nat} (ht : Fate R C f t) (hu : Fate R C g u) (h : tn R C f n = tn R C g n) : ∃ m, m ≤ max t u ∧ tn R C f m = tn R C g m := by
  by_cases hn : n ≤ max t u
  · exact ⟨n, hn, h⟩
  · refine ⟨max t u, Nat.le_refl _, ?_⟩
    have back : ∀ j, tn R C f (max t u + 2 * j) = tn R C f (max t u) ∧ tn R C g (max t u + 2 * j) = tn R C g (max t u) := fun j => by
      induction j with
      | zero => exact ⟨rfl, rfl⟩
      | succ j ih =>
        rw [← ih.1, ← ih.2]
        exact ⟨tn_per hf ht (max t u + 2 * j) (by omega), tn_per hg hu (max t u + 2 * j) (by omega)⟩
    have := eqT_later hf hg h (n := max t u + 2 * n) (by omega)
    rw [(back n).1, (back n).2] at this
    exact this
theorem meetS_same (hf : BD R C f) (hg : BD R C g) {t u n : Nat} (ht : Fate R C f t) (hu : Fate R C g u) (hn : max t u + 1 ≤ n) : meetS R C f g n = meetS R C f g (max t u + 1) := by
  unfold meetS
  obtain ⟨k, rfl⟩ : ∃ k, n = max t u + 1 + k := ⟨n - (max t u + 1), by omega⟩
  rw [List.range_add, List.find?_append]
  cases e : (List.range (max t u + 1)).find? (eqT R C f g) with
  | some m => rfl
  | none =>
    rw [Option.none_or, List.find?_eq_none]
    intro m hm hz
    obtain ⟨m', h1, h2⟩ := eqT_early hf hg ht hu ((eqT_iff hf hg).mp hz)
    have := List.find?_eq_none.mp e m' (List.mem_range.mpr (by omega))
    exact this ((eqT_iff hf hg).mpr h2)
theorem meetS_some (hf : BD R C f) (hg : BD R C g) {n m : Nat} (h : meetS R C f g n = some m) : m < n ∧ tn R C f m = tn R C g m ∧ ∀ k < m, tn R C f k ≠ tn R C g k := by
  unfold meetS at h
  obtain ⟨h1, h2, h3⟩ := List.find?_range_eq_some.mp h
  refine ⟨List.mem_range.mp h2, (eqT_iff hf hg).mp h1, fun k hk z => ?_⟩
  have := h3 k hk
  rw [(eqT_iff hf hg).mpr z] at this
  cases this
theorem meetS_symm (n : Nat) : meetS R C f g n = meetS R C g f n := by
  unfold meetS
  congr 1
  funext t
  unfold eqT
  rw [Bool.eq_iff_iff, eqv_iff _ _ pu_Bo pu_Bo, eqv_iff _ _ pu_Bo pu_Bo]
  exact ⟨Eq.symm, Eq.symm⟩
end
end FB
namespace FB
def S_law_0 : M Fl :=
  sSet 2 (eCallO D__law_any_board 1 (aC (eC (.int 12)) aN))
def S_law_1 : M Fl :=
  sSet 3 (eCall D__law_free (aC (eV 2) aN))
def S_law_2 : M Fl :=
  sSet 4 (eCall D__law_laid (aC (eV 2) (aC (eCallO D__law_some 1 (aC (eV 3) aN)) aN)))
def S_law_3 : M Fl :=
  sIf (tAn (tV (e2 opEq (eCallO D__law_roll 1 (aC (eC (.int 3)) aN)) (eC (.int 0)))) (tV (e2 opNe (eV 3) (eLst aN)))) (sSeq (sSet 5 (e2 opIx (eV 3) (eCallO D__law_roll 1 (aC (eB bLen (aC (eV 3) aN)) aN))))
    (sSet 4 (eCall D__law_laid (aC (eV 2) (aC (eLc (iL (eV 3)) (gN 7) (tV (e2 opNe (eCall D__law_ice (aC (eV 2) (aC (eV 7) aN))) (e2 opEq (eV 7) (eV 5)))) (eV 7) [7]) aN))))) (sNil)
def S_law_4 : M Fl :=
  sAsg (gT [6, 7, 8]) (eTup (aC (eC .non) (aC (eV 2) (aC (eV 4) aN))))
def S_law_5 : M Fl :=
  sFor (iRange1 (aC (eC (.int 84)) aN)) (gN 9) (sSeq (sIf (tAn (tV (e2 opIsN2 (eV 6) (eC .non))) (tV (e2 opEq (eV 7) (eV 8)))) (sSet 6 (eV 9)) (sNil))
    (sPar 7 8 (eCall D__law_ticked (aC (eV 7) aN)) (eCall D__law_ticked (aC (eV 8) aN))))
def S_law_6 : M Fl :=
  sSet 10 (eCall D_meet (aC (eV 2) (aC (eV 4) aN)))
def S_law_7 : M Fl :=
  sIf (tOr (tV (e2 opNe (eV 10) (eV 6))) (tOr (tV (e2 opNe (eCall D_meet (aC (eV 4) (aC (eV 2) aN))) (eV 6))) (tV (e2 opNe (eCall D_meet (aC (eV 2) (aC (eV 2) aN))) (eC (.int 0)))))) (sRet (eC (.bl false))) (sNil)
def S_law_8 : M Fl :=
  sIf (tV (e2 opNotN2 (eV 10) (eC .non))) (sSeq (sIf (tV (e2 opNe (eCall D_after (aC (eV 2) (aC (eV 10) aN))) (eCall D_after (aC (eV 4) (aC (eV 10) aN))))) (sRet (eC (.bl false))) (sNil))
    (sSeq (sIf (tV (e2 opNe (eCall D_after (aC (eV 2) (aC (e2 opAdd (eV 10) (eC (.int 1))) aN))) (eCall D_after (aC (eV 4) (aC (e2 opAdd (eV 10) (eC (.int 1))) aN))))) (sRet (eC (.bl false))) (sNil))
    (sIf (tAn (tV (e2 opGt (eV 10) (eC (.int 0)))) (tV (e2 opEq (eCall D_after (aC (eV 2) (aC (e2 opSub (eV 10) (eC (.int 1))) aN))) (eCall D_after (aC (eV 4) (aC (e2 opSub (eV 10) (eC (.int 1))) aN)))))) (sRet (eC (.bl false))) (sNil)))) (sNil)
def S_law_9 : M Fl :=
  sIf (tV (e2 opNe (eCall D_meet (aC (eCall D_exchanged (aC (eV 2) aN)) (aC (eCall D_exchanged (aC (eV 4) aN)) aN))) (eV 10))) (sRet (eC (.bl false))) (sNil)
def S_law_10 : M Fl :=
  sSet 11 (eIf (tV (e2 opGt (e2 opMul (eB bLen (aC (eV 2) aN)) (eB bLen (aC (e2 opIx (eV 2) (eC (.int 0))) aN))) (eC (.int 1)))) (eTup (aC (eC (.str [35])) aN)) (eTup (aC (eC (.str [35, 35])) aN)))
def S_law_11 : M Fl :=
  sIf (tV (e2 opNe (eTold kindE okE (eCall D_meet (aC (eV 2) (aC (eV 11) aN)))) (eTup (aC (eC (.str [101, 114, 114, 111, 114])) (aC (eC (.str [85, 110, 108, 105, 107, 101])) aN))))) (sRet (eC (.bl false))) (sNil)
def T_law_11 : M Fl := S_law_11
def T_law_10 : M Fl := sSeq S_law_10 T_law_11
def T_law_9 : M Fl := sSeq S_law_9 T_law_10
def T_law_8 : M Fl := sSeq S_law_8 T_law_9
def T_law_7 : M Fl := sSeq S_law_7 T_law_8
def T_law_6 : M Fl := sSeq S_law_6 T_law_7
def T_law_5 : M Fl := sSeq S_law_5 T_law_6
def T_law_4 : M Fl := sSeq S_law_4 T_law_5
def T_law_3 : M Fl := sSeq S_law_3 T_law_4
def T_law_2 : M Fl := sSeq S_law_2 T_law_3
def T_law_1 : M Fl := sSeq S_law_1 T_law_2
def T_law_0 : M Fl := sSeq S_law_0 T_law_1
def B_law : M Fl := T_law_0
end FB
namespace FB
section
variable {R C : Nat} {f g : F2}
theorem ne_natD (o : Option Nat) : opNe (natD o) (natD o) = some (.bl false) := by
  cases o with
  | none => rfl
  | some t =>
    show opNe (.int t) (.int t) = _
    rw [ne_int]
    simp
theorem meetS_self (n : Nat) (hn : 0 < n) : meetS R C f f n = some 0 := by
  unfold meetS
  obtain ⟨k, rfl⟩ : ∃ k, n = k + 1 := ⟨n - 1, by omega⟩
  rw [List.range_succ_eq_map, List.find?_cons_of_pos]
  unfold eqT
  exact eqB_r
theorem exch_SS {x y : F2} (hx : BD R C x) (hy : BD R C y) (hs : SS x y) : SS (exch R C x) (exch R C y) := fun i j => by
  unfold exch
  by_cases hij : i < R ∧ j < C
  · rw [if_pos hij, if_pos hij, ex_la (hx.ok _ _), ex_la (hy.ok _ _)]
    exact ⟨(hs i j).1, fun z => by rw [(hs i j).2 z]⟩
  · rw [if_neg hij, if_neg hij]
    exact ⟨rfl, fun _ => rfl⟩
theorem meetS_exch (hf : BD R C f) (hg : BD R C g) (n : Nat) : meetS R C (exch R C f) (exch R C g) n = meetS R C f g n := by
  unfold meetS
  congr 1
  funext t
  rw [Bool.eq_iff_iff, eqT_iff (exch_BD hf) (exch_BD hg), eqT_iff hf hg, tn_ex hf, tn_ex hg]
  exact ⟨exch_inj (tn_BD hf t) (tn_BD hg t), fun z => by rw [z]⟩
theorem law_plain (c : Int) : ∃ r', B_law ((List.replicate 12 Sl.un).set 1 (.bor [.int c, .int 0])) = .ok .nx r' ∧ r'.length = 12 := by
  show Nx (B_law [.un, .bor [.int c, .int 0], .un, .un, .un, .un, .un, .un, .un, .un, .un, .un]) fun r => r.length = 12
  obtain ⟨R, C, f, c1, k1, h, -, hf, e0⟩ := any_board_ok c 0 12 (by omega) (by omega)
  have e0 : D__law_any_board [.int c, .int 0] [.int 12] = _ := e0
  have fl := free_len (f := f) h
  have hR : 0 < R := h.r1
  have h3 := h.r4
  have h4 := h.c4
  have h5 := h.c1
  obtain ⟨m, c2, k2, m1, m2⟩ := some_ok c1 k1 (freeOf R C f) (by show _ ≤ 100000; omega)
  unfold B_law T_law_0
  refine seq_nx ?_
  simp only [S_law_0, seq_ap, set_ap, setK_ap, ret_ap, retK_ap, if_ap, ifK_ap, nil_ap, exp_ap, expK_ap, par_ap, parA_ap, parB_ap, asg_ap, asgK_ap, asgQ_ap, aug_ap, augQ_ap, augK_ap, augL_ap, raise_ap, newL_ap, newK_ap, app_ap, appQ_ap, appK_ap, appL_ap, frz_ap, frzQ_ap, tv_ap, an_ap, anK_ap, or_ap, orK_ap, no_ap, noK_ap, ty_ap, e1_ap, e1K_ap, e2_ap, e2K_ap, e2L_ap, v_ap, vQ_ap, c_ap, call_ap, callK_ap, eB_ap, eBK_ap, aC_ap, aCA_ap, aCB_ap, aN_ap, tup_ap, tupK_ap, lst_ap, lstK_ap, eIf_ap, eIfK_ap, eAn_ap, eAnK_ap, eOr_ap, eOrK_ap, okF_ap, eNo_ap, ch_ap, chA_ap, chB_ap, chC_ap, ixO_ap, ixQ_own, ixQ_bor, ixK_ap, ixL_own, ixL_bor, callO_ap, coQ_ap, coK_ap, coL_ap, tow_ok, iL_ap, iT_ap, iS_ap, iEnum_ap, enK_ap, iR_ap, sl_ap, slA_ap, slB_ap, slC_ap, gNo_ap, gSo_ap, gsK_ap, setAll, at_ok, at_exc, lf_some, chK_t, chK_f, to_ok, to_exc, blK_ap, bK_ap, nK_ap, flK_nx, flK_ret, lK_ap, uK_ap, f_nx, f_ret, f_exc, List.getElem?_cons_zero, List.getElem?_cons_succ, List.set_cons_zero, List.set_cons_succ, cond_true, cond_false, Bool.not_true, Bool.not_false, Bool.false_eq_true, if_false, e0]
  refine nx_ok ?_
  unfold T_law_1
  refine seq_nx ?_
  simp only [S_law_1, seq_ap, set_ap, setK_ap, ret_ap, retK_ap, if_ap, ifK_ap, nil_ap, exp_ap, expK_ap, par_ap, parA_ap, parB_ap, asg_ap, asgK_ap, asgQ_ap, aug_ap, augQ_ap, augK_ap, augL_ap, raise_ap, newL_ap, newK_ap, app_ap, appQ_ap, appK_ap, appL_ap, frz_ap, frzQ_ap, tv_ap, an_ap, anK_ap, or_ap, orK_ap, no_ap, noK_ap, ty_ap, e1_ap, e1K_ap, e2_ap, e2K_ap, e2L_ap, v_ap, vQ_ap, c_ap, call_ap, callK_ap, eB_ap, eBK_ap, aC_ap, aCA_ap, aCB_ap, aN_ap, tup_ap, tupK_ap, lst_ap, lstK_ap, eIf_ap, eIfK_ap, eAn_ap, eAnK_ap, eOr_ap, eOrK_ap, okF_ap, eNo_ap, ch_ap, chA_ap, chB_ap, chC_ap, ixO_ap, ixQ_own, ixQ_bor, ixK_ap, ixL_own, ixL_bor, callO_ap, coQ_ap, coK_ap, coL_ap, tow_ok, iL_ap, iT_ap, iS_ap, iEnum_ap, enK_ap, iR_ap, sl_ap, slA_ap, slB_ap, slC_ap, gNo_ap, gSo_ap, gsK_ap, setAll, at_ok, at_exc, lf_some, chK_t, chK_f, to_ok, to_exc, blK_ap, bK_ap, nK_ap, flK_nx, flK_ret, lK_ap, uK_ap, f_nx, f_ret, f_exc, List.getElem?_cons_zero, List.getElem?_cons_succ, List.set_cons_zero, List.set_cons_succ, cond_true, cond_false, Bool.not_true, Bool.not_false, Bool.false_eq_true, if_false, lfree_ok h]
  refine nx_ok ?_
  unfold T_law_2
  refine seq_nx ?_
  simp only [S_law_2, seq_ap, set_ap, setK_ap, ret_ap, retK_ap, if_ap, ifK_ap, nil_ap, exp_ap, expK_ap, par_ap, parA_ap, parB_ap, asg_ap, asgK_ap, asgQ_ap, aug_ap, augQ_ap, augK_ap, augL_ap, raise_ap, newL_ap, newK_ap, app_ap, appQ_ap, appK_ap, appL_ap, frz_ap, frzQ_ap, tv_ap, an_ap, anK_ap, or_ap, orK_ap, no_ap, noK_ap, ty_ap, e1_ap, e1K_ap, e2_ap, e2K_ap, e2L_ap, v_ap, vQ_ap, c_ap, call_ap, callK_ap, eB_ap, eBK_ap, aC_ap, aCA_ap, aCB_ap, aN_ap, tup_ap, tupK_ap, lst_ap, lstK_ap, eIf_ap, eIfK_ap, eAn_ap, eAnK_ap, eOr_ap, eOrK_ap, okF_ap, eNo_ap, ch_ap, chA_ap, chB_ap, chC_ap, ixO_ap, ixQ_own, ixQ_bor, ixK_ap, ixL_own, ixL_bor, callO_ap, coQ_ap, coK_ap, coL_ap, tow_ok, iL_ap, iT_ap, iS_ap, iEnum_ap, enK_ap, iR_ap, sl_ap, slA_ap, slB_ap, slC_ap, gNo_ap, gSo_ap, gsK_ap, setAll, at_ok, at_exc, lf_some, chK_t, chK_f, to_ok, to_exc, blK_ap, bK_ap, nK_ap, flK_nx, flK_ret, lK_ap, uK_ap, f_nx, f_ret, f_exc, List.getElem?_cons_zero, List.getElem?_cons_succ, List.set_cons_zero, List.set_cons_succ, cond_true, cond_false, Bool.not_true, Bool.not_false, Bool.false_eq_true, if_false, m2, laid_ok h (S := m) (.inr rfl)]
  refine nx_ok ?_
  unfold T_law_3
  refine seq_nx ?_
  obtain ⟨g, c3, k3, s5, hg, sg, e3⟩ : ∃ (g : F2) (c3 k3 : Int) (s5 : Sl), BD R C g ∧ SS g f ∧ S_law_3 [.un, .bor [.int c2, .int k2], .dat (Bo R C f), .dat (.lst ((freeOf R C f).map cD)), .dat (Bo R C (draw f m)), .un, .un, .un, .un, .un, .un, .un] = .ok .nx [.un, .bor [.int c3, .int k3], .dat (Bo R C f), .dat (.lst ((freeOf R C f).map cD)), .dat (Bo R C g), s5, .un, .un, .un, .un, .un, .un] := by
    have hg0 : BD R C (draw f m) := draw_BD hf fun p hp => free_cellsOf (m1.subset hp)
    obtain ⟨v, c3, k3, e1', hv⟩ := roll_nat c2 k2 3 (by omega) (by omega)
    have e1' : D__law_roll [.int c2, .int k2] [.int 3] = _ := e1'
    have en : opNe (.lst ((freeOf R C f).map cD)) (.lst []) = some (.bl (!(freeOf R C f).isEmpty)) := by
      rw [opNe_of rfl (dep_cs _) (leL rfl)]
      cases freeOf R C f <;> rfl
    cases hz : ((v : Int) == 0)
    · refine ⟨draw f m, c3, k3, .un, hg0, draw_SS, ?_⟩
      simp only [S_law_3, seq_ap, set_ap, setK_ap, ret_ap, retK_ap, if_ap, ifK_ap, nil_ap, exp_ap, expK_ap, par_ap, parA_ap, parB_ap, asg_ap, asgK_ap, asgQ_ap, aug_ap, augQ_ap, augK_ap, augL_ap, raise_ap, newL_ap, newK_ap, app_ap, appQ_ap, appK_ap, appL_ap, frz_ap, frzQ_ap, tv_ap, an_ap, anK_ap, or_ap, orK_ap, no_ap, noK_ap, ty_ap, e1_ap, e1K_ap, e2_ap, e2K_ap, e2L_ap, v_ap, vQ_ap, c_ap, call_ap, callK_ap, eB_ap, eBK_ap, aC_ap, aCA_ap, aCB_ap, aN_ap, tup_ap, tupK_ap, lst_ap, lstK_ap, eIf_ap, eIfK_ap, eAn_ap, eAnK_ap, eOr_ap, eOrK_ap, okF_ap, eNo_ap, ch_ap, chA_ap, chB_ap, chC_ap, ixO_ap, ixQ_own, ixQ_bor, ixK_ap, ixL_own, ixL_bor, callO_ap, coQ_ap, coK_ap, coL_ap, tow_ok, iL_ap, iT_ap, iS_ap, iEnum_ap, enK_ap, iR_ap, sl_ap, slA_ap, slB_ap, slC_ap, gNo_ap, gSo_ap, gsK_ap, setAll, at_ok, at_exc, lf_some, chK_t, chK_f, to_ok, to_exc, blK_ap, bK_ap, nK_ap, flK_nx, flK_ret, lK_ap, uK_ap, f_nx, f_ret, f_exc, List.getElem?_cons_zero, List.getElem?_cons_succ, List.set_cons_zero, List.set_cons_succ, cond_true, cond_false, Bool.not_true, Bool.not_false, Bool.false_eq_true, if_false, e1', eq_int, hz]
    · cases he : (freeOf R C f).isEmpty
      · rw [he] at en
        have hpos : 1 ≤ (freeOf R C f).length := by
          cases hq : freeOf R C f with
          | nil => rw [hq] at he; cases he
          | cons a l => simp
        obtain ⟨w, c4, k4, e2', hw⟩ := roll_nat c3 k3 (freeOf R C f).length hpos (by omega)
        have ix : opIx (.lst ((freeOf R C f).map cD)) (.int w) = some (cD ((freeOf R C f)[w])) := by
          show atD _ _ = _
          rw [atD_nat]
          simp [hw]
        have lL : bLen [.lst ((freeOf R C f).map cD)] = some (.int ((freeOf R C f).length : Nat)) := by rw [len_lst, List.length_map]
        have eqc : ∀ p q : Nat × Nat, opEq (cD p) (cD q) = some (.bl (decide (p = q))) := fun p q => by
          rw [← eqv_c]
          exact opEq_of rfl (leL rfl) (leL rfl)
        have z : eLc (iL (eV 3)) (gN 7) (tV (e2 opNe (eCall D__law_ice (aC (eV 2) (aC (eV 7) aN))) (e2 opEq (eV 7) (eV 5)))) (eV 7) [7] [.un, .bor [.int c4, .int k4], .dat (Bo R C f), .dat (.lst ((freeOf R C f).map cD)), .dat (Bo R C (draw f m)), .dat (cD ((freeOf R C f)[w])), .un, .un, .un, .un, .un, .un] = .ok (.lst (((freeOf R C f).filter fun p => !D.eqv (.bl (ic f p)) (.bl (decide (p = (freeOf R C f)[w])))).map cD)) [.un, .bor [.int c4, .int k4], .dat (Bo R C f), .dat (.lst ((freeOf R C f).map cD)), .dat (Bo R C (draw f m)), .dat (cD ((freeOf R C f)[w])), .un, .un, .un, .un, .un, .un] := by
          rw [lc_N (freeOf R C f) cD (fun p => !D.eqv (.bl (ic f p)) (.bl (decide (p = (freeOf R C f)[w])))) cD]
          · simp only [seq_ap, set_ap, setK_ap, ret_ap, retK_ap, if_ap, ifK_ap, nil_ap, exp_ap, expK_ap, par_ap, parA_ap, parB_ap, asg_ap, asgK_ap, asgQ_ap, aug_ap, augQ_ap, augK_ap, augL_ap, raise_ap, newL_ap, newK_ap, app_ap, appQ_ap, appK_ap, appL_ap, frz_ap, frzQ_ap, tv_ap, an_ap, anK_ap, or_ap, orK_ap, no_ap, noK_ap, ty_ap, e1_ap, e1K_ap, e2_ap, e2K_ap, e2L_ap, v_ap, vQ_ap, c_ap, call_ap, callK_ap, eB_ap, eBK_ap, aC_ap, aCA_ap, aCB_ap, aN_ap, tup_ap, tupK_ap, lst_ap, lstK_ap, eIf_ap, eIfK_ap, eAn_ap, eAnK_ap, eOr_ap, eOrK_ap, okF_ap, eNo_ap, ch_ap, chA_ap, chB_ap, chC_ap, ixO_ap, ixQ_own, ixQ_bor, ixK_ap, ixL_own, ixL_bor, callO_ap, coQ_ap, coK_ap, coL_ap, tow_ok, iL_ap, iT_ap, iS_ap, iEnum_ap, enK_ap, iR_ap, sl_ap, slA_ap, slB_ap, slC_ap, gNo_ap, gSo_ap, gsK_ap, setAll, at_ok, at_exc, lf_some, chK_t, chK_f, to_ok, to_exc, blK_ap, bK_ap, nK_ap, flK_nx, flK_ret, lK_ap, uK_ap, f_nx, f_ret, f_exc, List.getElem?_cons_zero, List.getElem?_cons_succ, List.set_cons_zero, List.set_cons_succ, cond_true, cond_false, Bool.not_true, Bool.not_false, Bool.false_eq_true, if_false]
          · exact ⟨rfl, ltL rfl, by show _ ≤ 100000; omega⟩
          · intro p hp
            have hc := mem_cells.mp (free_cellsOf hp)
            simp only [seq_ap, set_ap, setK_ap, ret_ap, retK_ap, if_ap, ifK_ap, nil_ap, exp_ap, expK_ap, par_ap, parA_ap, parB_ap, asg_ap, asgK_ap, asgQ_ap, aug_ap, augQ_ap, augK_ap, augL_ap, raise_ap, newL_ap, newK_ap, app_ap, appQ_ap, appK_ap, appL_ap, frz_ap, frzQ_ap, tv_ap, an_ap, anK_ap, or_ap, orK_ap, no_ap, noK_ap, ty_ap, e1_ap, e1K_ap, e2_ap, e2K_ap, e2L_ap, v_ap, vQ_ap, c_ap, call_ap, callK_ap, eB_ap, eBK_ap, aC_ap, aCA_ap, aCB_ap, aN_ap, tup_ap, tupK_ap, lst_ap, lstK_ap, eIf_ap, eIfK_ap, eAn_ap, eAnK_ap, eOr_ap, eOrK_ap, okF_ap, eNo_ap, ch_ap, chA_ap, chB_ap, chC_ap, ixO_ap, ixQ_own, ixQ_bor, ixK_ap, ixL_own, ixL_bor, callO_ap, coQ_ap, coK_ap, coL_ap, tow_ok, iL_ap, iT_ap, iS_ap, iEnum_ap, enK_ap, iR_ap, sl_ap, slA_ap, slB_ap, slC_ap, gNo_ap, gSo_ap, gsK_ap, setAll, at_ok, at_exc, lf_some, chK_t, chK_f, to_ok, to_exc, blK_ap, bK_ap, nK_ap, flK_nx, flK_ret, lK_ap, uK_ap, f_nx, f_ret, f_exc, List.getElem?_cons_zero, List.getElem?_cons_succ, List.set_cons_zero, List.set_cons_succ, cond_true, cond_false, Bool.not_true, Bool.not_false, Bool.false_eq_true, if_false, lice_ok hc, eqc, ne_bl]
            exact ⟨trivial, fun _ => trivial⟩
        refine ⟨draw f ((freeOf R C f).filter fun p => !D.eqv (.bl (ic f p)) (.bl (decide (p = (freeOf R C f)[w])))), c4, k4, .dat (cD ((freeOf R C f)[w])), draw_BD hf fun p hp => free_cellsOf (List.mem_filter.mp hp).1, draw_SS, ?_⟩
        have ll := laid_ok (f := f) h (S := (freeOf R C f).filter fun p => !D.eqv (.bl (ic f p)) (.bl (decide (p = (freeOf R C f)[w])))) (.inl rfl)
        simp only [S_law_3, seq_ap, set_ap, setK_ap, ret_ap, retK_ap, if_ap, ifK_ap, nil_ap, exp_ap, expK_ap, par_ap, parA_ap, parB_ap, asg_ap, asgK_ap, asgQ_ap, aug_ap, augQ_ap, augK_ap, augL_ap, raise_ap, newL_ap, newK_ap, app_ap, appQ_ap, appK_ap, appL_ap, frz_ap, frzQ_ap, tv_ap, an_ap, anK_ap, or_ap, orK_ap, no_ap, noK_ap, ty_ap, e1_ap, e1K_ap, e2_ap, e2K_ap, e2L_ap, v_ap, vQ_ap, c_ap, call_ap, callK_ap, eB_ap, eBK_ap, aC_ap, aCA_ap, aCB_ap, aN_ap, tup_ap, tupK_ap, lst_ap, lstK_ap, eIf_ap, eIfK_ap, eAn_ap, eAnK_ap, eOr_ap, eOrK_ap, okF_ap, eNo_ap, ch_ap, chA_ap, chB_ap, chC_ap, ixO_ap, ixQ_own, ixQ_bor, ixK_ap, ixL_own, ixL_bor, callO_ap, coQ_ap, coK_ap, coL_ap, tow_ok, iL_ap, iT_ap, iS_ap, iEnum_ap, enK_ap, iR_ap, sl_ap, slA_ap, slB_ap, slC_ap, gNo_ap, gSo_ap, gsK_ap, setAll, at_ok, at_exc, lf_some, chK_t, chK_f, to_ok, to_exc, blK_ap, bK_ap, nK_ap, flK_nx, flK_ret, lK_ap, uK_ap, f_nx, f_ret, f_exc, List.getElem?_cons_zero, List.getElem?_cons_succ, List.set_cons_zero, List.set_cons_succ, cond_true, cond_false, Bool.not_true, Bool.not_false, Bool.false_eq_true, if_false, e1', eq_int, hz, en, lL, e2', ix, z, ll]
      · rw [he] at en
        refine ⟨draw f m, c3, k3, .un, hg0, draw_SS, ?_⟩
        simp only [S_law_3, seq_ap, set_ap, setK_ap, ret_ap, retK_ap, if_ap, ifK_ap, nil_ap, exp_ap, expK_ap, par_ap, parA_ap, parB_ap, asg_ap, asgK_ap, asgQ_ap, aug_ap, augQ_ap, augK_ap, augL_ap, raise_ap, newL_ap, newK_ap, app_ap, appQ_ap, appK_ap, appL_ap, frz_ap, frzQ_ap, tv_ap, an_ap, anK_ap, or_ap, orK_ap, no_ap, noK_ap, ty_ap, e1_ap, e1K_ap, e2_ap, e2K_ap, e2L_ap, v_ap, vQ_ap, c_ap, call_ap, callK_ap, eB_ap, eBK_ap, aC_ap, aCA_ap, aCB_ap, aN_ap, tup_ap, tupK_ap, lst_ap, lstK_ap, eIf_ap, eIfK_ap, eAn_ap, eAnK_ap, eOr_ap, eOrK_ap, okF_ap, eNo_ap, ch_ap, chA_ap, chB_ap, chC_ap, ixO_ap, ixQ_own, ixQ_bor, ixK_ap, ixL_own, ixL_bor, callO_ap, coQ_ap, coK_ap, coL_ap, tow_ok, iL_ap, iT_ap, iS_ap, iEnum_ap, enK_ap, iR_ap, sl_ap, slA_ap, slB_ap, slC_ap, gNo_ap, gSo_ap, gsK_ap, setAll, at_ok, at_exc, lf_some, chK_t, chK_f, to_ok, to_exc, blK_ap, bK_ap, nK_ap, flK_nx, flK_ret, lK_ap, uK_ap, f_nx, f_ret, f_exc, List.getElem?_cons_zero, List.getElem?_cons_succ, List.set_cons_zero, List.set_cons_succ, cond_true, cond_false, Bool.not_true, Bool.not_false, Bool.false_eq_true, if_false, e1', eq_int, hz, en]
  rw [e3]
  refine nx_ok ?_
  clear e3
  obtain ⟨t, ht80, ht⟩ := fate_sure h hf
  obtain ⟨u, hu80, hu⟩ := fate_sure h hg
  unfold T_law_4
  refine seq_nx ?_
  simp only [S_law_4, seq_ap, set_ap, setK_ap, ret_ap, retK_ap, if_ap, ifK_ap, nil_ap, exp_ap, expK_ap, par_ap, parA_ap, parB_ap, asg_ap, asgK_ap, asgQ_ap, aug_ap, augQ_ap, augK_ap, augL_ap, raise_ap, newL_ap, newK_ap, app_ap, appQ_ap, appK_ap, appL_ap, frz_ap, frzQ_ap, tv_ap, an_ap, anK_ap, or_ap, orK_ap, no_ap, noK_ap, ty_ap, e1_ap, e1K_ap, e2_ap, e2K_ap, e2L_ap, v_ap, vQ_ap, c_ap, call_ap, callK_ap, eB_ap, eBK_ap, aC_ap, aCA_ap, aCB_ap, aN_ap, tup_ap, tupK_ap, lst_ap, lstK_ap, eIf_ap, eIfK_ap, eAn_ap, eAnK_ap, eOr_ap, eOrK_ap, okF_ap, eNo_ap, ch_ap, chA_ap, chB_ap, chC_ap, ixO_ap, ixQ_own, ixQ_bor, ixK_ap, ixL_own, ixL_bor, callO_ap, coQ_ap, coK_ap, coL_ap, tow_ok, iL_ap, iT_ap, iS_ap, iEnum_ap, enK_ap, iR_ap, sl_ap, slA_ap, slB_ap, slC_ap, gNo_ap, gSo_ap, gsK_ap, setAll, at_ok, at_exc, lf_some, chK_t, chK_f, to_ok, to_exc, blK_ap, bK_ap, nK_ap, flK_nx, flK_ret, lK_ap, uK_ap, f_nx, f_ret, f_exc, List.getElem?_cons_zero, List.getElem?_cons_succ, List.set_cons_zero, List.set_cons_succ, cond_true, cond_false, Bool.not_true, Bool.not_false, Bool.false_eq_true, if_false, gT, List.length_cons, List.length_nil, if_true]
  refine nx_ok ?_
  unfold T_law_5
  refine seq_nx ?_
  unfold S_law_5
  refine for_end (P := fun x => Nx x _) (List.range 84) (fun i => .int (i : Nat)) [.un, .bor [.int c3, .int k3], .dat (Bo R C f), .dat (.lst ((freeOf R C f).map cD)), .dat (Bo R C g), s5, .dat .non, .dat (Bo R C f), .dat (Bo R C g), .un, .un, .un]
    (fun p r => ∃ s9, r = [.un, .bor [.int c3, .int k3], .dat (Bo R C f), .dat (.lst ((freeOf R C f).map cD)), .dat (Bo R C g), s5, .dat (natD (meetS R C f g p.length)), .dat (Bo R C (tn R C f p.length)), .dat (Bo R C (tn R C g p.length)), s9, .un, .un]) ?_ ⟨_, rfl⟩ ?_ ?_
  · simp only [seq_ap, set_ap, setK_ap, ret_ap, retK_ap, if_ap, ifK_ap, nil_ap, exp_ap, expK_ap, par_ap, parA_ap, parB_ap, asg_ap, asgK_ap, asgQ_ap, aug_ap, augQ_ap, augK_ap, augL_ap, raise_ap, newL_ap, newK_ap, app_ap, appQ_ap, appK_ap, appL_ap, frz_ap, frzQ_ap, tv_ap, an_ap, anK_ap, or_ap, orK_ap, no_ap, noK_ap, ty_ap, e1_ap, e1K_ap, e2_ap, e2K_ap, e2L_ap, v_ap, vQ_ap, c_ap, call_ap, callK_ap, eB_ap, eBK_ap, aC_ap, aCA_ap, aCB_ap, aN_ap, tup_ap, tupK_ap, lst_ap, lstK_ap, eIf_ap, eIfK_ap, eAn_ap, eAnK_ap, eOr_ap, eOrK_ap, okF_ap, eNo_ap, ch_ap, chA_ap, chB_ap, chC_ap, ixO_ap, ixQ_own, ixQ_bor, ixK_ap, ixL_own, ixL_bor, callO_ap, coQ_ap, coK_ap, coL_ap, tow_ok, iL_ap, iT_ap, iS_ap, iEnum_ap, enK_ap, iR_ap, sl_ap, slA_ap, slB_ap, slC_ap, gNo_ap, gSo_ap, gsK_ap, setAll, at_ok, at_exc, lf_some, chK_t, chK_f, to_ok, to_exc, blK_ap, bK_ap, nK_ap, flK_nx, flK_ret, lK_ap, uK_ap, f_nx, f_ret, f_exc, List.getElem?_cons_zero, List.getElem?_cons_succ, List.set_cons_zero, List.set_cons_succ, cond_true, cond_false, Bool.not_true, Bool.not_false, Bool.false_eq_true, if_false]
    rfl
  · rintro p i hp r ⟨s9, rfl⟩
    obtain ⟨hi, rfl⟩ := pre_len hp
    refine ⟨_, rfl, ?_⟩
    rw [List.length_range, List.length_append, List.length_range, List.length_singleton]
    have hs : meetS R C f g (i + 1) = (meetS R C f g i).or (if eqT R C f g i = true then some i else none) := by
      unfold meetS
      rw [List.range_succ, List.find?_append]
      congr 1
      cases he : eqT R C f g i
      · rw [List.find?_cons_of_neg (by simp [he])]
        rfl
      · rw [List.find?_cons_of_pos he]
        rfl
    have t1 := lticked_ok h (tn_BD hf i)
    have t2 := lticked_ok h (tn_BD hg i)
    cases hm : meetS R C f g i with
    | some q =>
      rw [hm] at hs
      have e : natD (some q) = .int q := rfl
      have e' : opIsN2 (.int q) .non = some (.bl false) := rfl
      simp only [gN, seq_ap, set_ap, setK_ap, ret_ap, retK_ap, if_ap, ifK_ap, nil_ap, exp_ap, expK_ap, par_ap, parA_ap, parB_ap, asg_ap, asgK_ap, asgQ_ap, aug_ap, augQ_ap, augK_ap, augL_ap, raise_ap, newL_ap, newK_ap, app_ap, appQ_ap, appK_ap, appL_ap, frz_ap, frzQ_ap, tv_ap, an_ap, anK_ap, or_ap, orK_ap, no_ap, noK_ap, ty_ap, e1_ap, e1K_ap, e2_ap, e2K_ap, e2L_ap, v_ap, vQ_ap, c_ap, call_ap, callK_ap, eB_ap, eBK_ap, aC_ap, aCA_ap, aCB_ap, aN_ap, tup_ap, tupK_ap, lst_ap, lstK_ap, eIf_ap, eIfK_ap, eAn_ap, eAnK_ap, eOr_ap, eOrK_ap, okF_ap, eNo_ap, ch_ap, chA_ap, chB_ap, chC_ap, ixO_ap, ixQ_own, ixQ_bor, ixK_ap, ixL_own, ixL_bor, callO_ap, coQ_ap, coK_ap, coL_ap, tow_ok, iL_ap, iT_ap, iS_ap, iEnum_ap, enK_ap, iR_ap, sl_ap, slA_ap, slB_ap, slC_ap, gNo_ap, gSo_ap, gsK_ap, setAll, at_ok, at_exc, lf_some, chK_t, chK_f, to_ok, to_exc, blK_ap, bK_ap, nK_ap, flK_nx, flK_ret, lK_ap, uK_ap, f_nx, f_ret, f_exc, List.getElem?_cons_zero, List.getElem?_cons_succ, List.set_cons_zero, List.set_cons_succ, cond_true, cond_false, Bool.not_true, Bool.not_false, Bool.false_eq_true, if_false, e, e', t1, t2]
      exact nx_ok ⟨_, by rw [hs]; rfl⟩
    | none =>
      rw [hm] at hs
      have e : natD none = .non := rfl
      cases he : eqT R C f g i
      · rw [he] at hs
        unfold eqT at he
        simp only [gN, seq_ap, set_ap, setK_ap, ret_ap, retK_ap, if_ap, ifK_ap, nil_ap, exp_ap, expK_ap, par_ap, parA_ap, parB_ap, asg_ap, asgK_ap, asgQ_ap, aug_ap, augQ_ap, augK_ap, augL_ap, raise_ap, newL_ap, newK_ap, app_ap, appQ_ap, appK_ap, appL_ap, frz_ap, frzQ_ap, tv_ap, an_ap, anK_ap, or_ap, orK_ap, no_ap, noK_ap, ty_ap, e1_ap, e1K_ap, e2_ap, e2K_ap, e2L_ap, v_ap, vQ_ap, c_ap, call_ap, callK_ap, eB_ap, eBK_ap, aC_ap, aCA_ap, aCB_ap, aN_ap, tup_ap, tupK_ap, lst_ap, lstK_ap, eIf_ap, eIfK_ap, eAn_ap, eAnK_ap, eOr_ap, eOrK_ap, okF_ap, eNo_ap, ch_ap, chA_ap, chB_ap, chC_ap, ixO_ap, ixQ_own, ixQ_bor, ixK_ap, ixL_own, ixL_bor, callO_ap, coQ_ap, coK_ap, coL_ap, tow_ok, iL_ap, iT_ap, iS_ap, iEnum_ap, enK_ap, iR_ap, sl_ap, slA_ap, slB_ap, slC_ap, gNo_ap, gSo_ap, gsK_ap, setAll, at_ok, at_exc, lf_some, chK_t, chK_f, to_ok, to_exc, blK_ap, bK_ap, nK_ap, flK_nx, flK_ret, lK_ap, uK_ap, f_nx, f_ret, f_exc, List.getElem?_cons_zero, List.getElem?_cons_succ, List.set_cons_zero, List.set_cons_succ, cond_true, cond_false, Bool.not_true, Bool.not_false, Bool.false_eq_true, if_false, e, isN_non, eq_BB, he, t1, t2]
        exact nx_ok ⟨_, by rw [hs]; rfl⟩
      · rw [he] at hs
        unfold eqT at he
        simp only [gN, seq_ap, set_ap, setK_ap, ret_ap, retK_ap, if_ap, ifK_ap, nil_ap, exp_ap, expK_ap, par_ap, parA_ap, parB_ap, asg_ap, asgK_ap, asgQ_ap, aug_ap, augQ_ap, augK_ap, augL_ap, raise_ap, newL_ap, newK_ap, app_ap, appQ_ap, appK_ap, appL_ap, frz_ap, frzQ_ap, tv_ap, an_ap, anK_ap, or_ap, orK_ap, no_ap, noK_ap, ty_ap, e1_ap, e1K_ap, e2_ap, e2K_ap, e2L_ap, v_ap, vQ_ap, c_ap, call_ap, callK_ap, eB_ap, eBK_ap, aC_ap, aCA_ap, aCB_ap, aN_ap, tup_ap, tupK_ap, lst_ap, lstK_ap, eIf_ap, eIfK_ap, eAn_ap, eAnK_ap, eOr_ap, eOrK_ap, okF_ap, eNo_ap, ch_ap, chA_ap, chB_ap, chC_ap, ixO_ap, ixQ_own, ixQ_bor, ixK_ap, ixL_own, ixL_bor, callO_ap, coQ_ap, coK_ap, coL_ap, tow_ok, iL_ap, iT_ap, iS_ap, iEnum_ap, enK_ap, iR_ap, sl_ap, slA_ap, slB_ap, slC_ap, gNo_ap, gSo_ap, gsK_ap, setAll, at_ok, at_exc, lf_some, chK_t, chK_f, to_ok, to_exc, blK_ap, bK_ap, nK_ap, flK_nx, flK_ret, lK_ap, uK_ap, f_nx, f_ret, f_exc, List.getElem?_cons_zero, List.getElem?_cons_succ, List.set_cons_zero, List.set_cons_succ, cond_true, cond_false, Bool.not_true, Bool.not_false, Bool.false_eq_true, if_false, e, isN_non, eq_BB, he, t1, t2]
        exact nx_ok ⟨_, by rw [hs]; rfl⟩
  rintro r' ⟨s9, rfl⟩
  refine nx_ok ?_
  rw [List.length_range, meetS_same hf hg ht hu (show max t u + 1 ≤ 84 by omega)]
  unfold T_law_6
  refine seq_nx ?_
  simp only [S_law_6, seq_ap, set_ap, setK_ap, ret_ap, retK_ap, if_ap, ifK_ap, nil_ap, exp_ap, expK_ap, par_ap, parA_ap, parB_ap, asg_ap, asgK_ap, asgQ_ap, aug_ap, augQ_ap, augK_ap, augL_ap, raise_ap, newL_ap, newK_ap, app_ap, appQ_ap, appK_ap, appL_ap, frz_ap, frzQ_ap, tv_ap, an_ap, anK_ap, or_ap, orK_ap, no_ap, noK_ap, ty_ap, e1_ap, e1K_ap, e2_ap, e2K_ap, e2L_ap, v_ap, vQ_ap, c_ap, call_ap, callK_ap, eB_ap, eBK_ap, aC_ap, aCA_ap, aCB_ap, aN_ap, tup_ap, tupK_ap, lst_ap, lstK_ap, eIf_ap, eIfK_ap, eAn_ap, eAnK_ap, eOr_ap, eOrK_ap, okF_ap, eNo_ap, ch_ap, chA_ap, chB_ap, chC_ap, ixO_ap, ixQ_own, ixQ_bor, ixK_ap, ixL_own, ixL_bor, callO_ap, coQ_ap, coK_ap, coL_ap, tow_ok, iL_ap, iT_ap, iS_ap, iEnum_ap, enK_ap, iR_ap, sl_ap, slA_ap, slB_ap, slC_ap, gNo_ap, gSo_ap, gsK_ap, setAll, at_ok, at_exc, lf_some, chK_t, chK_f, to_ok, to_exc, blK_ap, bK_ap, nK_ap, flK_nx, flK_ret, lK_ap, uK_ap, f_nx, f_ret, f_exc, List.getElem?_cons_zero, List.getElem?_cons_succ, List.set_cons_zero, List.set_cons_succ, cond_true, cond_false, Bool.not_true, Bool.not_false, Bool.false_eq_true, if_false, meet_ok h hf hg sg.symm ht hu ht80 hu80]
  refine nx_ok ?_
  unfold T_law_7
  refine seq_nx ?_
  have e1 := meet_ok h hg hf sg hu ht hu80 ht80
  rw [Nat.max_comm, meetS_symm] at e1
  have e2' := meet_ok h hf hf SS.rfl ht ht ht80 ht80
  rw [meetS_self _ (by omega)] at e2'
  have e3' : opNe (natD (some 0)) (.int 0) = some (.bl false) := rfl
  simp only [S_law_7, seq_ap, set_ap, setK_ap, ret_ap, retK_ap, if_ap, ifK_ap, nil_ap, exp_ap, expK_ap, par_ap, parA_ap, parB_ap, asg_ap, asgK_ap, asgQ_ap, aug_ap, augQ_ap, augK_ap, augL_ap, raise_ap, newL_ap, newK_ap, app_ap, appQ_ap, appK_ap, appL_ap, frz_ap, frzQ_ap, tv_ap, an_ap, anK_ap, or_ap, orK_ap, no_ap, noK_ap, ty_ap, e1_ap, e1K_ap, e2_ap, e2K_ap, e2L_ap, v_ap, vQ_ap, c_ap, call_ap, callK_ap, eB_ap, eBK_ap, aC_ap, aCA_ap, aCB_ap, aN_ap, tup_ap, tupK_ap, lst_ap, lstK_ap, eIf_ap, eIfK_ap, eAn_ap, eAnK_ap, eOr_ap, eOrK_ap, okF_ap, eNo_ap, ch_ap, chA_ap, chB_ap, chC_ap, ixO_ap, ixQ_own, ixQ_bor, ixK_ap, ixL_own, ixL_bor, callO_ap, coQ_ap, coK_ap, coL_ap, tow_ok, iL_ap, iT_ap, iS_ap, iEnum_ap, enK_ap, iR_ap, sl_ap, slA_ap, slB_ap, slC_ap, gNo_ap, gSo_ap, gsK_ap, setAll, at_ok, at_exc, lf_some, chK_t, chK_f, to_ok, to_exc, blK_ap, bK_ap, nK_ap, flK_nx, flK_ret, lK_ap, uK_ap, f_nx, f_ret, f_exc, List.getElem?_cons_zero, List.getElem?_cons_succ, List.set_cons_zero, List.set_cons_succ, cond_true, cond_false, Bool.not_true, Bool.not_false, Bool.false_eq_true, if_false, ne_natD, e1, e2', e3']
  refine nx_ok ?_
  unfold T_law_8
  refine seq_nx ?_
  have h8 : ∀ r : En, r[10]? = some (.dat (natD (meetS R C f g (max t u + 1)))) → r[2]? = some (.dat (Bo R C f)) → r[4]? = some (.dat (Bo R C g)) → S_law_8 r = .ok .nx r := by
    intro r r10 r2 r4
    cases hm : meetS R C f g (max t u + 1) with
    | none =>
      rw [hm] at r10
      have e : natD none = .non := rfl
      have e' : opNotN2 .non .non = some (.bl false) := rfl
      rw [e] at r10
      simp only [S_law_8, seq_ap, set_ap, setK_ap, ret_ap, retK_ap, if_ap, ifK_ap, nil_ap, exp_ap, expK_ap, par_ap, parA_ap, parB_ap, asg_ap, asgK_ap, asgQ_ap, aug_ap, augQ_ap, augK_ap, augL_ap, raise_ap, newL_ap, newK_ap, app_ap, appQ_ap, appK_ap, appL_ap, frz_ap, frzQ_ap, tv_ap, an_ap, anK_ap, or_ap, orK_ap, no_ap, noK_ap, ty_ap, e1_ap, e1K_ap, e2_ap, e2K_ap, e2L_ap, v_ap, vQ_ap, c_ap, call_ap, callK_ap, eB_ap, eBK_ap, aC_ap, aCA_ap, aCB_ap, aN_ap, tup_ap, tupK_ap, lst_ap, lstK_ap, eIf_ap, eIfK_ap, eAn_ap, eAnK_ap, eOr_ap, eOrK_ap, okF_ap, eNo_ap, ch_ap, chA_ap, chB_ap, chC_ap, ixO_ap, ixQ_own, ixQ_bor, ixK_ap, ixL_own, ixL_bor, callO_ap, coQ_ap, coK_ap, coL_ap, tow_ok, iL_ap, iT_ap, iS_ap, iEnum_ap, enK_ap, iR_ap, sl_ap, slA_ap, slB_ap, slC_ap, gNo_ap, gSo_ap, gsK_ap, setAll, at_ok, at_exc, lf_some, chK_t, chK_f, to_ok, to_exc, blK_ap, bK_ap, nK_ap, flK_nx, flK_ret, lK_ap, uK_ap, f_nx, f_ret, f_exc, List.getElem?_cons_zero, List.getElem?_cons_succ, List.set_cons_zero, List.set_cons_succ, cond_true, cond_false, Bool.not_true, Bool.not_false, Bool.false_eq_true, if_false, r10, e']
    | some q =>
      rw [hm] at r10
      obtain ⟨q1, q2, q3⟩ := meetS_some hf hg hm
      have e : natD (some q) = .int q := rfl
      have e' : opNotN2 (.int q) .non = some (.bl true) := rfl
      rw [e] at r10
      have a1 := after_ok h hf q (by omega)
      have a2 := after_ok h hg q (by omega)
      have b1 : D_after [Bo R C f, .int ((q : Int) + 1)] = .ok (Bo R C (tn R C f (q + 1))) := after_ok h hf (q + 1) (by omega)
      have b2 : D_after [Bo R C g, .int ((q : Int) + 1)] = .ok (Bo R C (tn R C g (q + 1))) := after_ok h hg (q + 1) (by omega)
      have q4 := eqT_later hf hg q2 (n := q + 1) (by omega)
      rw [q2] at a1
      rw [q4] at b1
      by_cases hq : 0 < q
      · have g1 : decide ((0 : Int) < (q : Int)) = true := by rw [decide_eq_true_eq]; omega
        have z : ((q : Int) - 1) = ((q - 1 : Nat) : Int) := by omega
        have d1 := after_ok h hf (q - 1) (by omega)
        have d2 := after_ok h hg (q - 1) (by omega)
        have d3 : D.eqv (Bo R C (tn R C f (q - 1))) (Bo R C (tn R C g (q - 1))) = false := eqB_f fun z => q3 (q - 1) (by omega) (bo_ext (tn_BD hf _) (tn_BD hg _) z)
        simp only [S_law_8, seq_ap, set_ap, setK_ap, ret_ap, retK_ap, if_ap, ifK_ap, nil_ap, exp_ap, expK_ap, par_ap, parA_ap, parB_ap, asg_ap, asgK_ap, asgQ_ap, aug_ap, augQ_ap, augK_ap, augL_ap, raise_ap, newL_ap, newK_ap, app_ap, appQ_ap, appK_ap, appL_ap, frz_ap, frzQ_ap, tv_ap, an_ap, anK_ap, or_ap, orK_ap, no_ap, noK_ap, ty_ap, e1_ap, e1K_ap, e2_ap, e2K_ap, e2L_ap, v_ap, vQ_ap, c_ap, call_ap, callK_ap, eB_ap, eBK_ap, aC_ap, aCA_ap, aCB_ap, aN_ap, tup_ap, tupK_ap, lst_ap, lstK_ap, eIf_ap, eIfK_ap, eAn_ap, eAnK_ap, eOr_ap, eOrK_ap, okF_ap, eNo_ap, ch_ap, chA_ap, chB_ap, chC_ap, ixO_ap, ixQ_own, ixQ_bor, ixK_ap, ixL_own, ixL_bor, callO_ap, coQ_ap, coK_ap, coL_ap, tow_ok, iL_ap, iT_ap, iS_ap, iEnum_ap, enK_ap, iR_ap, sl_ap, slA_ap, slB_ap, slC_ap, gNo_ap, gSo_ap, gsK_ap, setAll, at_ok, at_exc, lf_some, chK_t, chK_f, to_ok, to_exc, blK_ap, bK_ap, nK_ap, flK_nx, flK_ret, lK_ap, uK_ap, f_nx, f_ret, f_exc, List.getElem?_cons_zero, List.getElem?_cons_succ, List.set_cons_zero, List.set_cons_succ, cond_true, cond_false, Bool.not_true, Bool.not_false, Bool.false_eq_true, if_false, r10, r2, r4, e', a1, a2, ne_BB, eqB_r, add_int, b1, b2, gt_int, g1, sub_int, z, d1, d2, eq_BB, d3]
      · have g1 : decide ((0 : Int) < (q : Int)) = false := by rw [decide_eq_false_iff_not]; omega
        simp only [S_law_8, seq_ap, set_ap, setK_ap, ret_ap, retK_ap, if_ap, ifK_ap, nil_ap, exp_ap, expK_ap, par_ap, parA_ap, parB_ap, asg_ap, asgK_ap, asgQ_ap, aug_ap, augQ_ap, augK_ap, augL_ap, raise_ap, newL_ap, newK_ap, app_ap, appQ_ap, appK_ap, appL_ap, frz_ap, frzQ_ap, tv_ap, an_ap, anK_ap, or_ap, orK_ap, no_ap, noK_ap, ty_ap, e1_ap, e1K_ap, e2_ap, e2K_ap, e2L_ap, v_ap, vQ_ap, c_ap, call_ap, callK_ap, eB_ap, eBK_ap, aC_ap, aCA_ap, aCB_ap, aN_ap, tup_ap, tupK_ap, lst_ap, lstK_ap, eIf_ap, eIfK_ap, eAn_ap, eAnK_ap, eOr_ap, eOrK_ap, okF_ap, eNo_ap, ch_ap, chA_ap, chB_ap, chC_ap, ixO_ap, ixQ_own, ixQ_bor, ixK_ap, ixL_own, ixL_bor, callO_ap, coQ_ap, coK_ap, coL_ap, tow_ok, iL_ap, iT_ap, iS_ap, iEnum_ap, enK_ap, iR_ap, sl_ap, slA_ap, slB_ap, slC_ap, gNo_ap, gSo_ap, gsK_ap, setAll, at_ok, at_exc, lf_some, chK_t, chK_f, to_ok, to_exc, blK_ap, bK_ap, nK_ap, flK_nx, flK_ret, lK_ap, uK_ap, f_nx, f_ret, f_exc, List.getElem?_cons_zero, List.getElem?_cons_succ, List.set_cons_zero, List.set_cons_succ, cond_true, cond_false, Bool.not_true, Bool.not_false, Bool.false_eq_true, if_false, r10, r2, r4, e', a1, a2, ne_BB, eqB_r, add_int, b1, b2, gt_int, g1]
  rw [h8 _ rfl rfl rfl]
  refine nx_ok ?_
  unfold T_law_9
  refine seq_nx ?_
  have e9 := meet_ok h (exch_BD hf) (exch_BD hg) (exch_SS hf hg sg.symm) (fate_exch hf ht) (fate_exch hg hu) ht80 hu80
  rw [meetS_exch hf hg] at e9
  simp only [S_law_9, seq_ap, set_ap, setK_ap, ret_ap, retK_ap, if_ap, ifK_ap, nil_ap, exp_ap, expK_ap, par_ap, parA_ap, parB_ap, asg_ap, asgK_ap, asgQ_ap, aug_ap, augQ_ap, augK_ap, augL_ap, raise_ap, newL_ap, newK_ap, app_ap, appQ_ap, appK_ap, appL_ap, frz_ap, frzQ_ap, tv_ap, an_ap, anK_ap, or_ap, orK_ap, no_ap, noK_ap, ty_ap, e1_ap, e1K_ap, e2_ap, e2K_ap, e2L_ap, v_ap, vQ_ap, c_ap, call_ap, callK_ap, eB_ap, eBK_ap, aC_ap, aCA_ap, aCB_ap, aN_ap, tup_ap, tupK_ap, lst_ap, lstK_ap, eIf_ap, eIfK_ap, eAn_ap, eAnK_ap, eOr_ap, eOrK_ap, okF_ap, eNo_ap, ch_ap, chA_ap, chB_ap, chC_ap, ixO_ap, ixQ_own, ixQ_bor, ixK_ap, ixL_own, ixL_bor, callO_ap, coQ_ap, coK_ap, coL_ap, tow_ok, iL_ap, iT_ap, iS_ap, iEnum_ap, enK_ap, iR_ap, sl_ap, slA_ap, slB_ap, slC_ap, gNo_ap, gSo_ap, gsK_ap, setAll, at_ok, at_exc, lf_some, chK_t, chK_f, to_ok, to_exc, blK_ap, bK_ap, nK_ap, flK_nx, flK_ret, lK_ap, uK_ap, f_nx, f_ret, f_exc, List.getElem?_cons_zero, List.getElem?_cons_succ, List.set_cons_zero, List.set_cons_succ, cond_true, cond_false, Bool.not_true, Bool.not_false, Bool.false_eq_true, if_false, exch_ok h hf, exch_ok h hg, e9, ne_natD]
  refine nx_ok ?_
  unfold T_law_10
  refine seq_nx ?_
  have em : opMul (.int (R : Int)) (.int (C : Int)) = some (.int ((R : Int) * C)) := mulS (by omega) (by omega) (by omega) (by omega)
  obtain ⟨u1, u2, u3⟩ := ofRows_ok (rows := [[35]]) (by decide +kernel)
  obtain ⟨v1, v2, v3⟩ := ofRows_ok (rows := [[35, 35]]) (by decide +kernel)
  obtain ⟨d, hd1, h10⟩ : ∃ d, D_need_pair [Bo R C f, d] = .exc 7 ∧ ∀ r : En, r[2]? = some (.dat (Bo R C f)) → S_law_10 r = .ok .nx (r.set 11 (.dat d)) := by
    by_cases hRC : 1 < R * C
    · have e : decide ((1 : Int) < (R : Int) * C) = true := by
        rw [decide_eq_true_eq, ← Int.natCast_mul]
        omega
      refine ⟨.tup [.str [35]], ?_, fun r r2 => ?_⟩
      · have : D.tup [.str [35]] = _ := u3
        rw [this]
        refine needp_un h u1 hf u2 fun z => ?_
        have z1 : R = 1 := z.1
        have z2 : C = 1 := z.2
        subst z1 z2
        omega
      · simp only [S_law_10, seq_ap, set_ap, setK_ap, ret_ap, retK_ap, if_ap, ifK_ap, nil_ap, exp_ap, expK_ap, par_ap, parA_ap, parB_ap, asg_ap, asgK_ap, asgQ_ap, aug_ap, augQ_ap, augK_ap, augL_ap, raise_ap, newL_ap, newK_ap, app_ap, appQ_ap, appK_ap, appL_ap, frz_ap, frzQ_ap, tv_ap, an_ap, anK_ap, or_ap, orK_ap, no_ap, noK_ap, ty_ap, e1_ap, e1K_ap, e2_ap, e2K_ap, e2L_ap, v_ap, vQ_ap, c_ap, call_ap, callK_ap, eB_ap, eBK_ap, aC_ap, aCA_ap, aCB_ap, aN_ap, tup_ap, tupK_ap, lst_ap, lstK_ap, eIf_ap, eIfK_ap, eAn_ap, eAnK_ap, eOr_ap, eOrK_ap, okF_ap, eNo_ap, ch_ap, chA_ap, chB_ap, chC_ap, ixO_ap, ixQ_own, ixQ_bor, ixK_ap, ixL_own, ixL_bor, callO_ap, coQ_ap, coK_ap, coL_ap, tow_ok, iL_ap, iT_ap, iS_ap, iEnum_ap, enK_ap, iR_ap, sl_ap, slA_ap, slB_ap, slC_ap, gNo_ap, gSo_ap, gsK_ap, setAll, at_ok, at_exc, lf_some, chK_t, chK_f, to_ok, to_exc, blK_ap, bK_ap, nK_ap, flK_nx, flK_ret, lK_ap, uK_ap, f_nx, f_ret, f_exc, List.getElem?_cons_zero, List.getElem?_cons_succ, List.set_cons_zero, List.set_cons_succ, cond_true, cond_false, Bool.not_true, Bool.not_false, Bool.false_eq_true, if_false, r2, len_Bo, ix_Bo0 hR, len_row, em, gt_int, e]
    · have e : decide ((1 : Int) < (R : Int) * C) = false := by
        rw [decide_eq_false_iff_not, ← Int.natCast_mul]
        omega
      have hC1 : C = 1 := by
        have : R * C ≤ 1 := by omega
        have : 1 * C ≤ R * C := Nat.mul_le_mul_right _ hR
        omega
      refine ⟨.tup [.str [35, 35]], ?_, fun r r2 => ?_⟩
      · have : D.tup [.str [35, 35]] = _ := v3
        rw [this]
        refine needp_un h v1 hf v2 fun z => ?_
        have z2 : C = 2 := z.2
        omega
      · simp only [S_law_10, seq_ap, set_ap, setK_ap, ret_ap, retK_ap, if_ap, ifK_ap, nil_ap, exp_ap, expK_ap, par_ap, parA_ap, parB_ap, asg_ap, asgK_ap, asgQ_ap, aug_ap, augQ_ap, augK_ap, augL_ap, raise_ap, newL_ap, newK_ap, app_ap, appQ_ap, appK_ap, appL_ap, frz_ap, frzQ_ap, tv_ap, an_ap, anK_ap, or_ap, orK_ap, no_ap, noK_ap, ty_ap, e1_ap, e1K_ap, e2_ap, e2K_ap, e2L_ap, v_ap, vQ_ap, c_ap, call_ap, callK_ap, eB_ap, eBK_ap, aC_ap, aCA_ap, aCB_ap, aN_ap, tup_ap, tupK_ap, lst_ap, lstK_ap, eIf_ap, eIfK_ap, eAn_ap, eAnK_ap, eOr_ap, eOrK_ap, okF_ap, eNo_ap, ch_ap, chA_ap, chB_ap, chC_ap, ixO_ap, ixQ_own, ixQ_bor, ixK_ap, ixL_own, ixL_bor, callO_ap, coQ_ap, coK_ap, coL_ap, tow_ok, iL_ap, iT_ap, iS_ap, iEnum_ap, enK_ap, iR_ap, sl_ap, slA_ap, slB_ap, slC_ap, gNo_ap, gSo_ap, gsK_ap, setAll, at_ok, at_exc, lf_some, chK_t, chK_f, to_ok, to_exc, blK_ap, bK_ap, nK_ap, flK_nx, flK_ret, lK_ap, uK_ap, f_nx, f_ret, f_exc, List.getElem?_cons_zero, List.getElem?_cons_succ, List.set_cons_zero, List.set_cons_succ, cond_true, cond_false, Bool.not_true, Bool.not_false, Bool.false_eq_true, if_false, r2, len_Bo, ix_Bo0 hR, len_row, em, gt_int, e]
  rw [h10 _ rfl]
  refine nx_ok ?_
  simp only [T_law_11, S_law_11, seq_ap, set_ap, setK_ap, ret_ap, retK_ap, if_ap, ifK_ap, nil_ap, exp_ap, expK_ap, par_ap, parA_ap, parB_ap, asg_ap, asgK_ap, asgQ_ap, aug_ap, augQ_ap, augK_ap, augL_ap, raise_ap, newL_ap, newK_ap, app_ap, appQ_ap, appK_ap, appL_ap, frz_ap, frzQ_ap, tv_ap, an_ap, anK_ap, or_ap, orK_ap, no_ap, noK_ap, ty_ap, e1_ap, e1K_ap, e2_ap, e2K_ap, e2L_ap, v_ap, vQ_ap, c_ap, call_ap, callK_ap, eB_ap, eBK_ap, aC_ap, aCA_ap, aCB_ap, aN_ap, tup_ap, tupK_ap, lst_ap, lstK_ap, eIf_ap, eIfK_ap, eAn_ap, eAnK_ap, eOr_ap, eOrK_ap, okF_ap, eNo_ap, ch_ap, chA_ap, chB_ap, chC_ap, ixO_ap, ixQ_own, ixQ_bor, ixK_ap, ixL_own, ixL_bor, callO_ap, coQ_ap, coK_ap, coL_ap, tow_ok, iL_ap, iT_ap, iS_ap, iEnum_ap, enK_ap, iR_ap, sl_ap, slA_ap, slB_ap, slC_ap, gNo_ap, gSo_ap, gsK_ap, setAll, at_ok, at_exc, lf_some, chK_t, chK_f, to_ok, to_exc, blK_ap, bK_ap, nK_ap, flK_nx, flK_ret, lK_ap, uK_ap, f_nx, f_ret, f_exc, List.getElem?_cons_zero, List.getElem?_cons_succ, List.set_cons_zero, List.set_cons_succ, cond_true, cond_false, Bool.not_true, Bool.not_false, Bool.false_eq_true, if_false, td_ap, td_ok, td_1, td_2, td_3, td_4, td_5, td_6, td_7, td_8, ne_err, eq_err, meet_exc hd1]
  exact nx_ok rfl
end
end FB
namespace FB
open PySem PySem.Spec L2 L2H LamX
def top (i : Nat) : Stmt := PySem.Challenge.pw_frostboard_k16_whole_meetings.main.body.getD i (.Pass ⟨0, 0, 0, 0⟩)
def cvK (K : PySem.W.Frag) : Nat → Value
  | 0 => .ref (He.ga K "FrostError")
  | 1 => .ref (He.ga K "InvalidBoard")
  | 2 => .ref (He.ga K "InvalidCell")
  | 3 => .ref (He.ga K "InvalidCells")
  | 4 => .ref (He.ga K "InvalidTicks")
  | 5 => .ref (He.ga K "InvalidText")
  | 6 => .ref (He.ga K "TooLarge")
  | 7 => .ref (He.ga K "Unlike")
  | 8 => .ref (He.ga K "NothingToUndo")
  | _ => .none
theorem cv_ca {K : PySem.W.Frag} : ∀ c, okE c = true → cvK K c = .ref (caK K c)
  | 1, _ => rfl
  | 2, _ => rfl
  | 3, _ => rfl
  | 4, _ => rfl
  | 5, _ => rfl
  | 6, _ => rfl
  | 7, _ => rfl
  | 8, _ => rfl
  | 0, h => nomatch h
  | _ + 9, h => by simp [okE] at h
structure Md (K : PySem.W.Frag) (mg : Str → Option Value) (w : World) : Prop where
  tab : TabF K w mg
  er : ErrF K mg (caK K) okE
  g_InvalidBoard : mg "InvalidBoard" = some (.ref (caK K 1))
  g_InvalidCell : mg "InvalidCell" = some (.ref (caK K 2))
  g_InvalidCells : mg "InvalidCells" = some (.ref (caK K 3))
  g_InvalidTicks : mg "InvalidTicks" = some (.ref (caK K 4))
  g_InvalidText : mg "InvalidText" = some (.ref (caK K 5))
  g_TooLarge : mg "TooLarge" = some (.ref (caK K 6))
  g_Unlike : mg "Unlike" = some (.ref (caK K 7))
  g_NothingToUndo : mg "NothingToUndo" = some (.ref (caK K 8))
  m_ValueError : mg "ValueError" = none
  m_abs : mg "abs" = none
  m_all : mg "all" = none
  m_bool : mg "bool" = none
  m_enumerate : mg "enumerate" = none
  m_int : mg "int" = none
  m_isinstance : mg "isinstance" = none
  m_len : mg "len" = none
  m_max : mg "max" = none
  m_min : mg "min" = none
  m_range : mg "range" = none
  m_str : mg "str" = none
  m_sum : mg "sum" = none
  m_tuple : mg "tuple" = none
  x_FrostError : ExF K mg "FrostError" (cvK K 0)
  x_InvalidBoard : ExF K mg "InvalidBoard" (cvK K 1)
  x_InvalidCell : ExF K mg "InvalidCell" (cvK K 2)
  x_InvalidCells : ExF K mg "InvalidCells" (cvK K 3)
  x_InvalidTicks : ExF K mg "InvalidTicks" (cvK K 4)
  x_InvalidText : ExF K mg "InvalidText" (cvK K 5)
  x_TooLarge : ExF K mg "TooLarge" (cvK K 6)
  x_Unlike : ExF K mg "Unlike" (cvK K 7)
  x_NothingToUndo : ExF K mg "NothingToUndo" (cvK K 8)
  f__law_cell : ∃ f fd, Fun K "_law_cell" "_law_cell" (top 31) f fd ∧ mg "_law_cell" = some (.ref f)
  f__law_rounds : ∃ f fd, Fun K "_law_rounds" "_law_rounds" (top 34) f fd ∧ mg "_law_rounds" = some (.ref f)
  f__law_drawn : ∃ f fd, Fun K "_law_drawn" "_law_drawn" (top 32) f fd ∧ mg "_law_drawn" = some (.ref f)
  f__law_roll : ∃ f fd, Fun K "_law_roll" "_law_roll" (top 33) f fd ∧ mg "_law_roll" = some (.ref f)
  f__law_any_board : ∃ f fd, Fun K "_law_any_board" "_law_any_board" (top 37) f fd ∧ mg "_law_any_board" = some (.ref f)
  f__law_free : ∃ f fd, Fun K "_law_free" "_law_free" (top 38) f fd ∧ mg "_law_free" = some (.ref f)
  f__law_laid : ∃ f fd, Fun K "_law_laid" "_law_laid" (top 41) f fd ∧ mg "_law_laid" = some (.ref f)
  f_is_row : ∃ f fd, Fun K "is_row" "is_row" (top 13) f fd ∧ mg "is_row" = some (.ref f)
  f_is_board : ∃ f fd, Fun K "is_board" "is_board" (top 14) f fd ∧ mg "is_board" = some (.ref f)
  f_need_board : ∃ f fd, Fun K "need_board" "need_board" (top 15) f fd ∧ mg "need_board" = some (.ref f)
  f_bare : ∃ f fd, Fun K "bare" "bare" (top 17) f fd ∧ mg "bare" = some (.ref f)
  f_need_pair : ∃ f fd, Fun K "need_pair" "need_pair" (top 28) f fd ∧ mg "need_pair" = some (.ref f)
  f_ice_at : ∃ f fd, Fun K "ice_at" "ice_at" (top 16) f fd ∧ mg "ice_at" = some (.ref f)
  f_neighbours : ∃ f fd, Fun K "neighbours" "neighbours" (top 20) f fd ∧ mg "neighbours" = some (.ref f)
  f_next_sign : ∃ f fd, Fun K "next_sign" "next_sign" (top 21) f fd ∧ mg "next_sign" = some (.ref f)
  f_ticked : ∃ f fd, Fun K "ticked" "ticked" (top 22) f fd ∧ mg "ticked" = some (.ref f)
  f_fate_of : ∃ f fd, Fun K "fate_of" "fate_of" (top 26) f fd ∧ mg "fate_of" = some (.ref f)
  f_meet : ∃ f fd, Fun K "meet" "meet" (top 29) f fd ∧ mg "meet" = some (.ref f)
  f__law_some : ∃ f fd, Fun K "_law_some" "_law_some" (top 43) f fd ∧ mg "_law_some" = some (.ref f)
  f__law_term : ∃ f fd, Fun K "_law_term" "_law_term" (top 35) f fd ∧ mg "_law_term" = some (.ref f)
  f__law_told : ∃ f fd, Fun K "_law_told" "_law_told" (top 36) f fd ∧ mg "_law_told" = some (.ref f)
  f__law_ice : ∃ f fd, Fun K "_law_ice" "_law_ice" (top 39) f fd ∧ mg "_law_ice" = some (.ref f)
  f__law_near : ∃ f fd, Fun K "_law_near" "_law_near" (top 40) f fd ∧ mg "_law_near" = some (.ref f)
  f__law_ticked : ∃ f fd, Fun K "_law_ticked" "_law_ticked" (top 42) f fd ∧ mg "_law_ticked" = some (.ref f)
  f_is_whole : ∃ f fd, Fun K "is_whole" "is_whole" (top 12) f fd ∧ mg "is_whole" = some (.ref f)
  f_need_ticks : ∃ f fd, Fun K "need_ticks" "need_ticks" (top 23) f fd ∧ mg "need_ticks" = some (.ref f)
  f_later : ∃ f fd, Fun K "later" "later" (top 24) f fd ∧ mg "later" = some (.ref f)
  f_after : ∃ f fd, Fun K "after" "after" (top 25) f fd ∧ mg "after" = some (.ref f)
  f_exchanged : ∃ f fd, Fun K "exchanged" "exchanged" (top 18) f fd ∧ mg "exchanged" = some (.ref f)
theorem tx0 : Tx (Str.ofString "TooLarge") [84, 111, 111, 76, 97, 114, 103, 101] := ⟨by decide +kernel, by decide +kernel, by decide +kernel⟩
theorem tx1 : Tx (Str.ofString "InvalidText") [73, 110, 118, 97, 108, 105, 100, 84, 101, 120, 116] := ⟨by decide +kernel, by decide +kernel, by decide +kernel⟩
theorem tx2 : Tx (Str.ofString "InvalidTicks") [73, 110, 118, 97, 108, 105, 100, 84, 105, 99, 107, 115] := ⟨by decide +kernel, by decide +kernel, by decide +kernel⟩
theorem tx3 : Tx (Str.ofString "InvalidCells") [73, 110, 118, 97, 108, 105, 100, 67, 101, 108, 108, 115] := ⟨by decide +kernel, by decide +kernel, by decide +kernel⟩
theorem tx4 : Tx (Str.ofString "InvalidCell") [73, 110, 118, 97, 108, 105, 100, 67, 101, 108, 108] := ⟨by decide +kernel, by decide +kernel, by decide +kernel⟩
theorem tx5 : Tx (Str.ofString "InvalidBoard") [73, 110, 118, 97, 108, 105, 100, 66, 111, 97, 114, 100] := ⟨by decide +kernel, by decide +kernel, by decide +kernel⟩
theorem tx6 : Tx (Str.ofString "NothingToUndo") [78, 111, 116, 104, 105, 110, 103, 84, 111, 85, 110, 100, 111] := ⟨by decide +kernel, by decide +kernel, by decide +kernel⟩
theorem tx7 : Tx (Str.ofString "Unlike") [85, 110, 108, 105, 107, 101] := ⟨by decide +kernel, by decide +kernel, by decide +kernel⟩
theorem tx8 : Tx (Str.ofString "other") [111, 116, 104, 101, 114] := ⟨by decide +kernel, by decide +kernel, by decide +kernel⟩
theorem tx9 : Tx (Str.ofString "error") [101, 114, 114, 111, 114] := ⟨by decide +kernel, by decide +kernel, by decide +kernel⟩
theorem tx10 : Tx (Str.ofString "#..") [35, 46, 46] := ⟨by decide +kernel, by decide +kernel, by decide +kernel⟩
theorem tx11 : Tx (Str.ofString "##.") [35, 35, 46] := ⟨by decide +kernel, by decide +kernel, by decide +kernel⟩
theorem tx12 : Tx (Str.ofString "#.#.#.#.*o") [35, 46, 35, 46, 35, 46, 35, 46, 42, 111] := ⟨by decide +kernel, by decide +kernel, by decide +kernel⟩
theorem tx13 : Tx (Str.ofString "#.#.#.*") [35, 46, 35, 46, 35, 46, 42] := ⟨by decide +kernel, by decide +kernel, by decide +kernel⟩
theorem tx14 : Tx (Str.ofString "#.") [35, 46] := ⟨by decide +kernel, by decide +kernel, by decide +kernel⟩
theorem tx15 : Tx (Str.ofString "") [] := ⟨by decide +kernel, by decide +kernel, by decide +kernel⟩
theorem tx16 : Tx (Str.ofString "*o") [42, 111] := ⟨by decide +kernel, by decide +kernel, by decide +kernel⟩
theorem tx17 : Tx (Str.ofString "#") [35] := ⟨by decide +kernel, by decide +kernel, by decide +kernel⟩
theorem tx18 : Tx (Str.ofString ".") [46] := ⟨by decide +kernel, by decide +kernel, by decide +kernel⟩
theorem tx19 : Tx (Str.ofString "#.*o") [35, 46, 42, 111] := ⟨by decide +kernel, by decide +kernel, by decide +kernel⟩
theorem tx20 : Tx (Str.ofString "#*") [35, 42] := ⟨by decide +kernel, by decide +kernel, by decide +kernel⟩
theorem tx21 : Tx (Str.ofString "##") [35, 35] := ⟨by decide +kernel, by decide +kernel, by decide +kernel⟩
section
variable {P : Program} {w : World} {K : PySem.W.Frag} {mg : Str → Option Value} {base : Heap} {T : List (Addr × Str)}
theorem sc__law_cell : FnScope ["script", "k"] ["script", "k"] (defScope (top 31)) := ⟨rfl, rfl, rfl, by decide +kernel, rfl, by decide +kernel, by decide +kernel⟩
theorem ok__law_cell (M : Md K mg w) : Has P w K mg base T (cvK K) 1 "_law_cell" 2 D__law_cell := by
  obtain ⟨f, fd, F, hm⟩ := M.f__law_cell
  refine fn_d F hm (F.binds fun _ _ _ _ _ _ us hl => match us, hl with | [_, _], _ => rfl) sc__law_cell rfl (by decide) fun cdv A outer s H E hr => ?_
  have nd := sc__law_cell.nd
  have tk : Tk (cxOf (L2N.CX P w) P w K mg base ["script", "k"] "_law_cell" (defScope (top 31)) f cdv A outer s H E) E := L2N.takes_of rfl rfl rfl rfl
  have pw : PassesOwn (model P w) (cxOf (L2N.CX P w) P w K mg base ["script", "k"] "_law_cell" (defScope (top 31)) f cdv A outer s H E).A (cxOf (L2N.CX P w) P w K mg base ["script", "k"] "_law_cell" (defScope (top 31)) f cdv A outer s H E).env (cxOf (L2N.CX P w) P w K mg base ["script", "k"] "_law_cell" (defScope (top 31)) f cdv A outer s H E).xe := L2.passes_of rfl
  exact dss_cons (ds_if (dt_cmp (op_eqD hr.units) p_eq (nomark _) (de_v 0) (de_lst da_nil (Ln.le ln_nil))) (dss_one (ds_ret (de_bin o_mul p_mul (de_v 1) de_int))) (dss_nil))
    (dss_one (ds_ret (de_bin o_add p_add (de_ix (de_v 0) (de_bin op_mod p_mod (de_v 1) (de_callB o_len p_len (by rfl) M.m_len PySem.boot_len (da_cons (de_v 0) da_nil))) ix_seq p_ix (fun _ _ => rfl)) (de_bin o_mul p_mul (de_bin op_fdivW p_fdiv (de_v 1) (de_callB o_len p_len (by rfl) M.m_len PySem.boot_len (da_cons (de_v 0) da_nil))) de_int))))
theorem sc__law_rounds : FnScope ["script", "most", "k"] ["script", "most"] (defScope (top 34)) := ⟨rfl, rfl, rfl, by decide +kernel, rfl, by decide +kernel, by decide +kernel⟩
theorem ok__law_rounds (M : Md K mg w) : ∃ (a : Addr) (fd : FuncData) (ps : List Str), mg "_law_rounds" = some (.ref a) ∧ PySem.W.keepIn K (.ref a) = true ∧ Binds K fd ps [] ∧ FnOk P w K mg base (L2N.CX P w) 2 a fd ps (spRounds T K) := by
  obtain ⟨f, fd, F, hm⟩ := M.f__law_rounds
  refine ⟨f, fd, _, hm, F.kp, (F.binds fun _ _ _ _ _ _ us hl => match us, hl with | [_, _], _ => rfl), Fun.okN F sc__law_rounds (fun vs H Q E h => ?_) fun cdv A outer s H vs Q E hr h => ?_⟩
  · obtain ⟨a, ns, m, e, _⟩ := h
    rw [e]
    rfl
  · obtain ⟨a, ns, m, e, hb, hA, hT, q⟩ := h
    subst e
    have nd := sc__law_rounds.nd
    have tk : Tk (cxOf (L2N.CX P w) P w K mg base ["script", "most", "k"] "_law_rounds" (defScope (top 34)) f cdv A outer s H E) E := L2N.takes_of rfl rfl rfl rfl
    have pw : PassesOwn (model P w) (cxOf (L2N.CX P w) P w K mg base ["script", "most", "k"] "_law_rounds" (defScope (top 34)) f cdv A outer s H E).A (cxOf (L2N.CX P w) P w K mg base ["script", "most", "k"] "_law_rounds" (defScope (top 34)) f cdv A outer s H E).env (cxOf (L2N.CX P w) P w K mg base ["script", "most", "k"] "_law_rounds" (defScope (top 34)) f cdv A outer s H E).xe := L2.passes_of rfl
    obtain ⟨xs, hx1, hx2, hx3⟩ := rounds_plain hb.1 hb.2
    exact rounds_core (T := T) (cv := cvK K) (E := E) (fi := FI_rounds) (te := TE_rounds) (own := [("k", 2)]) hx1 hx2 hx3 hA hT q rfl nd (di_r1 (by rfl) M.m_range (da_cons (de_callB (call_max2 rfl) p_max (by rfl) M.m_max (by decide +kernel) (da_cons de_int (da_cons (de_callB (call_min2 rfl) p_min (by rfl) M.m_min (by decide +kernel) (da_cons (de_v 1) (da_cons (de_callB o_len p_len (by rfl) M.m_len PySem.boot_len (da_cons (de_v 0) da_nil)) da_nil))) da_nil))) da_nil)) (blkOk_by (by kernel_rfl)) rfl (fun _ _ _ _ _ => dg_n (i := 2) nd rfl (by first | exact Or.inl rfl | exact Or.inr rfl)) (fun _ _ _ _ _ => de_call tk0 (ok__law_cell M) (hr.mono (by decide)) (by rfl) (da_cons (de_v 0) (da_cons (de_v 2) da_nil)) (ln_cons (ln_cons ln_nil))) (fun _ _ _ _ _ => rfl)
theorem sc__law_drawn : FnScope ["cell", "k", "more"] ["cell", "k"] (defScope (top 32)) := ⟨rfl, rfl, rfl, by decide +kernel, rfl, by decide +kernel, by decide +kernel⟩
theorem ok__law_drawn (M : Md K mg w) : Has P w K mg base T (cvK K) 1 "_law_drawn" 2 D__law_drawn := by
  obtain ⟨f, fd, F, hm⟩ := M.f__law_drawn
  refine fn_d F hm (F.binds fun _ _ _ _ _ _ us hl => match us, hl with | [_, _], _ => rfl) sc__law_drawn rfl (by decide) fun cdv A outer s H E hr => ?_
  have nd := sc__law_drawn.nd
  have tk : Tk (cxOf (L2N.CX P w) P w K mg base ["cell", "k", "more"] "_law_drawn" (defScope (top 32)) f cdv A outer s H E) E := L2N.takes_of rfl rfl rfl rfl
  have pw : PassesOwn (model P w) (cxOf (L2N.CX P w) P w K mg base ["cell", "k", "more"] "_law_drawn" (defScope (top 32)) f cdv A outer s H E).A (cxOf (L2N.CX P w) P w K mg base ["cell", "k", "more"] "_law_drawn" (defScope (top 32)) f cdv A outer s H E).env (cxOf (L2N.CX P w) P w K mg base ["cell", "k", "more"] "_law_drawn" (defScope (top 32)) f cdv A outer s H E).xe := L2.passes_of rfl
  exact dss_cons (ds_set (i := 2) nd rfl (by first | exact Or.inl rfl | exact Or.inr rfl) (de_bin op_mod p_mod (de_bin o_add p_add (de_bin o_mul p_mul (de_v 0) de_int) (de_bin o_mul p_mul (de_bin o_add p_add (de_v 1) de_int) de_int)) de_int))
    (dss_cons (ds_set (i := 2) nd rfl (by first | exact Or.inl rfl | exact Or.inr rfl) (de_bin op_mod p_mod (de_bin o_mul p_mul (de_v 2) (de_v 2)) de_int))
    (dss_cons (ds_set (i := 2) nd rfl (by first | exact Or.inl rfl | exact Or.inr rfl) (de_bin o_mul p_mul (de_bin o_mul p_mul (de_bin o_add p_add (de_bin op_mod p_mod (de_v 2) de_int) de_int) (de_bin o_add p_add (de_bin op_fdivW p_fdiv (de_v 2) de_int) de_int)) (de_v 2)))
    (dss_one (ds_ret (de_bin op_mod p_mod (de_v 2) de_int)))))
theorem sc__law_roll : FnScope ["dice", "many", "told"] ["dice", "many"] (defScope (top 33)) := ⟨rfl, rfl, rfl, by decide +kernel, rfl, by decide +kernel, by decide +kernel⟩
theorem ok__law_roll (M : Md K mg w) : HasO P w K mg base T (cvK K) 2 "_law_roll" 2 D__law_roll := by
  obtain ⟨f, fd, F, hm⟩ := M.f__law_roll
  refine fn_o F hm (F.binds fun _ _ _ _ _ _ us hl => match us, hl with | [_, _], _ => rfl) sc__law_roll rfl (by decide) (by decide) fun cdv A outer s H E hr => ?_
  have nd := sc__law_roll.nd
  have tk : Tk (cxOf (L2N.CX P w) P w K mg base ["dice", "many", "told"] "_law_roll" (defScope (top 33)) f cdv A outer s H E) E := L2N.takes_of rfl rfl rfl rfl
  have pw : PassesOwn (model P w) (cxOf (L2N.CX P w) P w K mg base ["dice", "many", "told"] "_law_roll" (defScope (top 33)) f cdv A outer s H E).A (cxOf (L2N.CX P w) P w K mg base ["dice", "many", "told"] "_law_roll" (defScope (top 33)) f cdv A outer s H E).env (cxOf (L2N.CX P w) P w K mg base ["dice", "many", "told"] "_law_roll" (defScope (top 33)) f cdv A outer s H E).xe := L2.passes_of rfl
  exact dss_cons (ds_if (dt_cmp op_ge p_ge (nomark _) (de_ixO (i := 0) rfl (by first | exact Or.inl rfl | exact Or.inr (Or.inl rfl) | exact Or.inr (Or.inr rfl)) de_int (fun _ _ => rfl)) (de_bin op_pow p_pow de_int de_int)) (dss_cons (ds_set (i := 2) nd rfl (by first | exact Or.inl rfl | exact Or.inr rfl) (de_bin op_mod p_mod (de_ixO (i := 0) rfl (by first | exact Or.inl rfl | exact Or.inr (Or.inl rfl) | exact Or.inr (Or.inr rfl)) de_int (fun _ _ => rfl)) (de_v 1)))
      (dss_cons (ds_put (i := 0) (j := 0) rfl (by first | exact Or.inl rfl | exact Or.inr (Or.inl rfl)) (de_bin op_fdivW p_fdiv (de_ixO (i := 0) rfl (by first | exact Or.inl rfl | exact Or.inr (Or.inl rfl) | exact Or.inr (Or.inr rfl)) de_int (fun _ _ => rfl)) (de_v 1)))
      (dss_one (ds_ret (de_v 2))))) (dss_nil))
    (dss_cons (ds_put (i := 0) (j := 1) rfl (by first | exact Or.inl rfl | exact Or.inr (Or.inl rfl)) (de_bin o_add p_add (de_ixO (i := 0) rfl (by first | exact Or.inl rfl | exact Or.inr (Or.inl rfl) | exact Or.inr (Or.inr rfl)) de_int (fun _ _ => rfl)) de_int))
    (dss_one (ds_ret (de_bin op_mod p_mod (de_bin op_fdivW p_fdiv (de_call tk (ok__law_drawn M) (hr.mono (by decide)) (by rfl) (da_cons (de_ixO (i := 0) rfl (by first | exact Or.inl rfl | exact Or.inr (Or.inl rfl) | exact Or.inr (Or.inr rfl)) de_int (fun _ _ => rfl)) (da_cons (de_ixO (i := 0) rfl (by first | exact Or.inl rfl | exact Or.inr (Or.inl rfl) | exact Or.inr (Or.inr rfl)) de_int (fun _ _ => rfl)) da_nil)) (ln_cons (ln_cons ln_nil))) de_int) (de_v 1)))))
theorem sc__law_any_board : FnScope ["dice", "most", "rows", "columns", "signs", "found", "number", "column"] ["dice", "most"] (defScope (top 37)) := ⟨rfl, rfl, rfl, by decide +kernel, rfl, by decide +kernel, by decide +kernel⟩
theorem ok__law_any_board (M : Md K mg w) : HasO P w K mg base T (cvK K) 3 "_law_any_board" 2 D__law_any_board := by
  obtain ⟨f, fd, F, hm⟩ := M.f__law_any_board
  refine fn_o F hm (F.binds fun _ _ _ _ _ _ us hl => match us, hl with | [_, _], _ => rfl) sc__law_any_board rfl (by decide) (by decide) fun cdv A outer s H E hr => ?_
  have nd := sc__law_any_board.nd
  have tk : Tk (cxOf (L2N.CX P w) P w K mg base ["dice", "most", "rows", "columns", "signs", "found", "number", "column"] "_law_any_board" (defScope (top 37)) f cdv A outer s H E) E := L2N.takes_of rfl rfl rfl rfl
  have pw : PassesOwn (model P w) (cxOf (L2N.CX P w) P w K mg base ["dice", "most", "rows", "columns", "signs", "found", "number", "column"] "_law_any_board" (defScope (top 37)) f cdv A outer s H E).A (cxOf (L2N.CX P w) P w K mg base ["dice", "most", "rows", "columns", "signs", "found", "number", "column"] "_law_any_board" (defScope (top 37)) f cdv A outer s H E).env (cxOf (L2N.CX P w) P w K mg base ["dice", "most", "rows", "columns", "signs", "found", "number", "column"] "_law_any_board" (defScope (top 37)) f cdv A outer s H E).xe := L2.passes_of rfl
  exact dss_cons (ds_par (i := 2) (j := 3) rfl nd rfl rfl (by decide) rfl rfl (de_bin o_add p_add de_int (de_callO (i := 0) tk (ok__law_roll M) (hr.mono (by decide)) (by rfl) rfl (by first | exact Or.inl rfl | exact Or.inr (Or.inl rfl) | exact Or.inr (Or.inr rfl)) (da_cons de_int da_nil) (ln_cons ln_nil))) (de_bin o_add p_add de_int (de_callO (i := 0) tk (ok__law_roll M) (hr.mono (by decide)) (by rfl) rfl (by first | exact Or.inl rfl | exact Or.inr (Or.inl rfl) | exact Or.inr (Or.inr rfl)) (da_cons de_int da_nil) (ln_cons ln_nil))) rfl)
    (dss_cons (ds_while 1000 pw (dt_cmp (o_gt hr.units) p_gt' (nomark _) (de_bin o_mul p_mul (de_v 2) (de_v 3)) (de_v 1)) (dss_one (ds_asg (de_ifE (dt_cmp op_ge p_ge (nomark _) (de_v 2) (de_v 3)) (de_tup (da_cons (de_bin op_sub p_sub (de_v 2) de_int) (da_cons (de_v 3) da_nil)) (Ln.le (ln_cons (ln_cons ln_nil)))) (de_tup (da_cons (de_v 2) (da_cons (de_bin op_sub p_sub (de_v 3) de_int) da_nil)) (Ln.le (ln_cons (ln_cons ln_nil))))) (dg_t rfl (dgs_cons (i := 2) nd rfl (by first | exact Or.inl rfl | exact Or.inr rfl) (dgs_cons (i := 3) nd rfl (by first | exact Or.inl rfl | exact Or.inr rfl) (dgs_nil)))))))
    (dss_cons (ds_set (i := 4) nd rfl (by first | exact Or.inl rfl | exact Or.inr rfl) (de_ix (de_lst (da_cons (de_str tx14) (da_cons (de_str tx13) (da_cons (de_str tx12) (da_cons (de_str tx11) (da_cons (de_str tx10) da_nil))))) (Ln.le (ln_cons (ln_cons (ln_cons (ln_cons (ln_cons ln_nil))))))) (de_callO (i := 0) tk (ok__law_roll M) (hr.mono (by decide)) (by rfl) rfl (by first | exact Or.inl rfl | exact Or.inr (Or.inl rfl) | exact Or.inr (Or.inr rfl)) (da_cons de_int da_nil) (ln_cons ln_nil)) ix_seq p_ix (fun _ _ => rfl)))
    (dss_cons (ds_newL (i := 5) nd rfl (by first | exact Or.inl rfl | exact Or.inr rfl) da_nil (Ln.le ln_nil))
    (dss_cons (ds_for pw rfl (di_r1 (by rfl) M.m_range (da_cons (de_v 2) da_nil)) (dg_n (i := 6) nd rfl (by first | exact Or.inl rfl | exact Or.inr rfl)) (dss_one (ds_app (i := 5) rfl (by first | exact Or.inl rfl | exact Or.inr (Or.inl rfl)) (de_join tx15 (de_lc (own := [("column", 7)]) rfl nd (di_r1 (by rfl) M.m_range (da_cons (de_v 3) da_nil)) (blkOk_by (by kernel_rfl)) (fun _ _ _ _ _ => dg_n (i := 7) nd rfl (by first | exact Or.inl rfl | exact Or.inr rfl)) (fun _ _ _ _ _ => dts_nil) (fun _ _ _ _ _ => de_ix (de_v 4) (de_callO (i := 0) tk0 (ok__law_roll M) (hr.mono (by decide)) (by rfl) rfl (by first | exact Or.inl rfl | exact Or.inr (Or.inl rfl) | exact Or.inr (Or.inr rfl)) (da_cons (de_callB o_len p_len (by rfl) M.m_len PySem.boot_len (da_cons (de_v 4) da_nil)) da_nil) (ln_cons ln_nil)) ix_seq p_ix (fun _ _ => rfl)))))))
    (dss_frz 5 (dss_one (ds_ret (de_callTy call_tuple_of p_tuple (by rfl) M.m_tuple PyProof.Rows.boot_tuple (da_cons (de_v 5) da_nil)))))))))
theorem sc__law_free : FnScope ["board", "found", "number", "signs", "column", "sign"] ["board"] (defScope (top 38)) := ⟨rfl, rfl, rfl, by decide +kernel, rfl, by decide +kernel, by decide +kernel⟩
theorem ok__law_free (M : Md K mg w) : Has P w K mg base T (cvK K) 1 "_law_free" 1 D__law_free := by
  obtain ⟨f, fd, F, hm⟩ := M.f__law_free
  refine fn_d F hm (F.binds fun _ _ _ _ _ _ us hl => match us, hl with | [_], _ => rfl) sc__law_free rfl (by decide) fun cdv A outer s H E hr => ?_
  have nd := sc__law_free.nd
  have tk : Tk (cxOf (L2N.CX P w) P w K mg base ["board", "found", "number", "signs", "column", "sign"] "_law_free" (defScope (top 38)) f cdv A outer s H E) E := L2N.takes_of rfl rfl rfl rfl
  have pw : PassesOwn (model P w) (cxOf (L2N.CX P w) P w K mg base ["board", "found", "number", "signs", "column", "sign"] "_law_free" (defScope (top 38)) f cdv A outer s H E).A (cxOf (L2N.CX P w) P w K mg base ["board", "found", "number", "signs", "column", "sign"] "_law_free" (defScope (top 38)) f cdv A outer s H E).env (cxOf (L2N.CX P w) P w K mg base ["board", "found", "number", "signs", "column", "sign"] "_law_free" (defScope (top 38)) f cdv A outer s H E).xe := L2.passes_of rfl
  exact dss_cons (ds_set (i := 1) nd rfl (by first | exact Or.inl rfl | exact Or.inr rfl) (de_lst da_nil (Ln.le ln_nil)))
    (dss_cons (ds_for pw rfl (di_enT (by rfl) M.m_enumerate (de_v 0)) (dg_t rfl (dgs_cons (i := 2) nd rfl (by first | exact Or.inl rfl | exact Or.inr rfl) (dgs_cons (i := 3) nd rfl (by first | exact Or.inl rfl | exact Or.inr rfl) (dgs_nil)))) (dss_one (ds_set (i := 1) nd rfl (by first | exact Or.inl rfl | exact Or.inr rfl) (de_bin o_add p_add (de_v 1) (de_lc (own := [("column", 4), ("sign", 5)]) rfl nd (di_enS (by rfl) M.m_enumerate (de_v 3)) (blkOk_by (by kernel_rfl)) (fun _ _ _ _ _ => dg_t rfl (dgs_cons (i := 4) nd rfl (by first | exact Or.inl rfl | exact Or.inr rfl) (dgs_cons (i := 5) nd rfl (by first | exact Or.inl rfl | exact Or.inr rfl) (dgs_nil)))) (fun _ _ _ _ _ => dts_one (dt_cmp op_in_sign p_inS rfl (de_v 5) (de_str tx14))) (fun _ _ _ _ _ => de_tup (da_cons (de_v 2) (da_cons (de_v 4) da_nil)) (Ln.le (ln_cons (ln_cons ln_nil)))))))))
    (dss_one (ds_ret (de_v 1))))
theorem sc__law_laid : FnScope ["board", "some", "found", "number", "signs", "made", "column", "sign"] ["board", "some"] (defScope (top 41)) := ⟨rfl, rfl, rfl, by decide +kernel, rfl, by decide +kernel, by decide +kernel⟩
theorem ok__law_laid (M : Md K mg w) : Has P w K mg base T (cvK K) 1 "_law_laid" 2 D__law_laid := by
  obtain ⟨f, fd, F, hm⟩ := M.f__law_laid
  refine fn_d F hm (F.binds fun _ _ _ _ _ _ us hl => match us, hl with | [_, _], _ => rfl) sc__law_laid rfl (by decide) fun cdv A outer s H E hr => ?_
  have nd := sc__law_laid.nd
  have tk : Tk (cxOf (L2N.CX P w) P w K mg base ["board", "some", "found", "number", "signs", "made", "column", "sign"] "_law_laid" (defScope (top 41)) f cdv A outer s H E) E := L2N.takes_of rfl rfl rfl rfl
  have pw : PassesOwn (model P w) (cxOf (L2N.CX P w) P w K mg base ["board", "some", "found", "number", "signs", "made", "column", "sign"] "_law_laid" (defScope (top 41)) f cdv A outer s H E).A (cxOf (L2N.CX P w) P w K mg base ["board", "some", "found", "number", "signs", "made", "column", "sign"] "_law_laid" (defScope (top 41)) f cdv A outer s H E).env (cxOf (L2N.CX P w) P w K mg base ["board", "some", "found", "number", "signs", "made", "column", "sign"] "_law_laid" (defScope (top 41)) f cdv A outer s H E).xe := L2.passes_of rfl
  exact dss_cons (ds_newL (i := 2) nd rfl (by first | exact Or.inl rfl | exact Or.inr rfl) da_nil (Ln.le ln_nil))
    (dss_cons (ds_for pw rfl (di_enT (by rfl) M.m_enumerate (de_v 0)) (dg_t rfl (dgs_cons (i := 3) nd rfl (by first | exact Or.inl rfl | exact Or.inr rfl) (dgs_cons (i := 4) nd rfl (by first | exact Or.inl rfl | exact Or.inr rfl) (dgs_nil)))) (dss_cons (ds_newL (i := 5) nd rfl (by first | exact Or.inl rfl | exact Or.inr rfl) da_nil (Ln.le ln_nil))
      (dss_cons (ds_for pw rfl (di_enS (by rfl) M.m_enumerate (de_v 4)) (dg_t rfl (dgs_cons (i := 6) nd rfl (by first | exact Or.inl rfl | exact Or.inr rfl) (dgs_cons (i := 7) nd rfl (by first | exact Or.inl rfl | exact Or.inr rfl) (dgs_nil)))) (dss_one (ds_app (i := 5) rfl (by first | exact Or.inl rfl | exact Or.inr (Or.inl rfl)) (de_ifE (dt_cmp op_in_sign p_inS rfl (de_v 7) (de_str tx16)) (de_v 7) (de_ifE (dt_cmp (o_in hr) p_in (by rfl) (de_tup (da_cons (de_v 3) (da_cons (de_v 6) da_nil)) (Ln.le (ln_cons (ln_cons ln_nil)))) (de_v 1)) (de_str tx17) (de_str tx18))))))
      (dss_frz 5 (dss_one (ds_app (i := 2) rfl (by first | exact Or.inl rfl | exact Or.inr (Or.inl rfl)) (de_join tx15 (de_v 5))))))))
    (dss_frz 2 (dss_one (ds_ret (de_callTy call_tuple_of p_tuple (by rfl) M.m_tuple PyProof.Rows.boot_tuple (da_cons (de_v 2) da_nil))))))
theorem sc_is_row : FnScope ["value", "size", "sign"] ["value", "size"] (defScope (top 13)) := ⟨rfl, rfl, rfl, by decide +kernel, rfl, by decide +kernel, by decide +kernel⟩
theorem ok_is_row (M : Md K mg w) : Has P w K mg base T (cvK K) 1 "is_row" 2 D_is_row := by
  obtain ⟨f, fd, F, hm⟩ := M.f_is_row
  refine fn_d F hm (F.binds fun _ _ _ _ _ _ us hl => match us, hl with | [_, _], _ => rfl) sc_is_row rfl (by decide) fun cdv A outer s H E hr => ?_
  have nd := sc_is_row.nd
  have tk : Tk (cxOf (L2N.CX P w) P w K mg base ["value", "size", "sign"] "is_row" (defScope (top 13)) f cdv A outer s H E) E := L2N.takes_of rfl rfl rfl rfl
  have pw : PassesOwn (model P w) (cxOf (L2N.CX P w) P w K mg base ["value", "size", "sign"] "is_row" (defScope (top 13)) f cdv A outer s H E).A (cxOf (L2N.CX P w) P w K mg base ["value", "size", "sign"] "is_row" (defScope (top 13)) f cdv A outer s H E).env (cxOf (L2N.CX P w) P w K mg base ["value", "size", "sign"] "is_row" (defScope (top 13)) f cdv A outer s H E).xe := L2.passes_of rfl
  exact dss_one (ds_ret (de_and (de_isi (t := 2) (by decide) (by rfl) M.m_isinstance (by rfl) M.m_str (by decide +kernel) (de_v 0)) (de_and (de_cmp (op_eqD hr.units) p_eq (nomark _) (de_callB o_len p_len (by rfl) M.m_len PySem.boot_len (da_cons (de_v 0) da_nil)) (de_v 1)) (de_one (de_callB (cr_all rfl) p_all (by rfl) M.m_all (by decide +kernel) (da_cons (de_lc (own := [("sign", 2)]) rfl nd (di_s (de_v 0)) (blkOk_by (by kernel_rfl)) (fun _ _ _ _ _ => dg_n (i := 2) nd rfl (by first | exact Or.inl rfl | exact Or.inr rfl)) (fun _ _ _ _ _ => dts_nil) (fun _ _ _ _ _ => de_cmp op_in_sign p_inS rfl (de_v 2) (de_str tx19))) da_nil))))))
theorem sc_is_board : FnScope ["value", "size", "one"] ["value"] (defScope (top 14)) := ⟨rfl, rfl, rfl, by decide +kernel, rfl, by decide +kernel, by decide +kernel⟩
theorem okg_is_board (M : Md K mg w) : HasG P w K mg base T (cvK K) 2 "is_board" 1 D_is_board 0 (fun u => u ≠ .bool false) := by
  obtain ⟨f, fd, F, hm⟩ := M.f_is_board
  refine run_G F hm (F.binds fun _ _ _ _ _ _ us hl => match us, hl with | [_], _ => rfl) sc_is_board rfl (by decide) fun cdv A outer s H E hr => ?_
  have nd := sc_is_board.nd
  have tk : Tk (cxOf (L2N.CX P w) P w K mg base ["value", "size", "one"] "is_board" (defScope (top 14)) f cdv A outer s H E) E := L2N.takes_of rfl rfl rfl rfl
  have pw : PassesOwn (model P w) (cxOf (L2N.CX P w) P w K mg base ["value", "size", "one"] "is_board" (defScope (top 14)) f cdv A outer s H E).A (cxOf (L2N.CX P w) P w K mg base ["value", "size", "one"] "is_board" (defScope (top 14)) f cdv A outer s H E).env (cxOf (L2N.CX P w) P w K mg base ["value", "size", "one"] "is_board" (defScope (top 14)) f cdv A outer s H E).xe := L2.passes_of rfl
  exact gs_first (dss_cons (ds_if (DW.t (dw_or (dt_not (dt_v (de_isi (t := 3) (by decide) (by rfl) M.m_isinstance (by rfl) M.m_tuple (by decide +kernel) (de_v 0)))) (dw_or (dt_not (dt_chain op_le op_le p_le p_le de_int (de_callB o_len p_len (by rfl) M.m_len PySem.boot_len (da_cons (de_v 0) da_nil)) de_int)) (dw_or1 (dt_not (dt_v (de_isi (t := 2) (by decide) (by rfl) M.m_isinstance (by rfl) M.m_str (by decide +kernel) (de_ix (de_v 0) de_int ix_seq p_ix (fun _ _ => rfl))))))))) (dss_one (ds_ret de_bl)) (dss_nil))
    (dss_cons (ds_set (i := 1) nd rfl (by first | exact Or.inl rfl | exact Or.inr rfl) (de_callB o_len p_len (by rfl) M.m_len PySem.boot_len (da_cons (de_ix (de_v 0) de_int ix_seq p_ix (fun _ _ => rfl)) da_nil)))
    (dss_cons (ds_if (DW.t (dw_or (dt_not (dt_chain op_le op_le p_le p_le de_int (de_v 1) de_int)) (dw_or1 (dt_cmp (o_gt hr.units) p_gt' (nomark _) (de_bin o_mul p_mul (de_v 1) (de_callB o_len p_len (by rfl) M.m_len PySem.boot_len (da_cons (de_v 0) da_nil))) de_int)))) (dss_one (ds_ret de_bl)) (dss_nil))
    (dss_one (ds_ret (de_callB (cr_all rfl) p_all (by rfl) M.m_all (by decide +kernel) (da_cons (de_lc (own := [("one", 2)]) rfl nd (di_t (de_v 0)) (blkOk_by (by kernel_rfl)) (fun _ _ _ _ _ => dg_n (i := 2) nd rfl (by first | exact Or.inl rfl | exact Or.inr rfl)) (fun _ _ _ _ _ => dts_nil) (fun _ _ _ _ _ => de_call tk0 (ok_is_row M) (hr.mono (by decide)) (by rfl) (da_cons (de_v 2) (da_cons (de_v 1) da_nil)) (ln_cons (ln_cons ln_nil)))) da_nil)))))))
theorem sc_need_board : FnScope ["board"] ["board"] (defScope (top 15)) := ⟨rfl, rfl, rfl, by decide +kernel, rfl, by decide +kernel, by decide +kernel⟩
theorem okg_need_board (M : Md K mg w) : HasG P w K mg base T (cvK K) 3 "need_board" 1 D_need_board 0 (fun _ => True) := by
  obtain ⟨f, fd, F, hm⟩ := M.f_need_board
  refine run_G F hm (F.binds fun _ _ _ _ _ _ us hl => match us, hl with | [_], _ => rfl) sc_need_board rfl (by decide) fun cdv A outer s H E hr => ?_
  have nd := sc_need_board.nd
  have tk : Tk (cxOf (L2N.CX P w) P w K mg base ["board"] "need_board" (defScope (top 15)) f cdv A outer s H E) E := L2N.takes_of rfl rfl rfl rfl
  have pw : PassesOwn (model P w) (cxOf (L2N.CX P w) P w K mg base ["board"] "need_board" (defScope (top 15)) f cdv A outer s H E).A (cxOf (L2N.CX P w) P w K mg base ["board"] "need_board" (defScope (top 15)) f cdv A outer s H E).env (cxOf (L2N.CX P w) P w K mg base ["board"] "need_board" (defScope (top 15)) f cdv A outer s H E).xe := L2.passes_of rfl
  exact gs_need (ge_call tk (okg_is_board M) (hr.mono (by decide)) (by rfl) (da_cons (de_v 0) da_nil) (ln_cons ln_nil)) (ds_raise (cn := 1) rfl tk (pm_own M.x_InvalidBoard (by rfl)))
theorem ok_need_board (M : Md K mg w) : Has P w K mg base T (cvK K) 3 "need_board" 1 D_need_board := (okg_need_board M).has
theorem sc_bare : FnScope ["board", "signs"] ["board"] (defScope (top 17)) := ⟨rfl, rfl, rfl, by decide +kernel, rfl, by decide +kernel, by decide +kernel⟩
theorem okg_bare (M : Md K mg w) : HasG P w K mg base T (cvK K) 1 "bare" 1 D_bare 1 (fun _ => False) := by
  obtain ⟨f, fd, F, hm⟩ := M.f_bare
  refine run_G F hm (F.binds fun _ _ _ _ _ _ us hl => match us, hl with | [_], _ => rfl) sc_bare rfl (by decide) fun cdv A outer s H E hr => ?_
  have nd := sc_bare.nd
  have tk : Tk (cxOf (L2N.CX P w) P w K mg base ["board", "signs"] "bare" (defScope (top 17)) f cdv A outer s H E) E := L2N.takes_of rfl rfl rfl rfl
  have pw : PassesOwn (model P w) (cxOf (L2N.CX P w) P w K mg base ["board", "signs"] "bare" (defScope (top 17)) f cdv A outer s H E).A (cxOf (L2N.CX P w) P w K mg base ["board", "signs"] "bare" (defScope (top 17)) f cdv A outer s H E).env (cxOf (L2N.CX P w) P w K mg base ["board", "signs"] "bare" (defScope (top 17)) f cdv A outer s H E).xe := L2.passes_of rfl
  exact Dss1.gs (dss1_one (ds1_ret (de1_callTy call_tuple_of p_tuple (by rfl) M.m_tuple PyProof.Rows.boot_tuple (da1_cons (de1_lc (own := [("signs", 1)]) rfl nd (di_t (de_v 0)) (blkOk_by (by kernel_rfl)) (fun _ _ _ _ _ => dg_n (i := 1) nd rfl (by first | exact Or.inl rfl | exact Or.inr rfl)) (fun _ _ _ _ _ => dts_nil) (fun _ _ _ _ _ => de1_repl tx17 tx18 (by decide) (de_v 1))) da1_nil))))
theorem sc_need_pair : FnScope ["board", "other"] ["board", "other"] (defScope (top 28)) := ⟨rfl, rfl, rfl, by decide +kernel, rfl, by decide +kernel, by decide +kernel⟩
theorem ok_need_pair (M : Md K mg w) : Has P w K mg base T (cvK K) 4 "need_pair" 2 D_need_pair := by
  obtain ⟨f, fd, F, hm⟩ := M.f_need_pair
  refine fn_d F hm (F.binds fun _ _ _ _ _ _ us hl => match us, hl with | [_, _], _ => rfl) sc_need_pair rfl (by decide) fun cdv A outer s H E hr => ?_
  have nd := sc_need_pair.nd
  have tk : Tk (cxOf (L2N.CX P w) P w K mg base ["board", "other"] "need_pair" (defScope (top 28)) f cdv A outer s H E) E := L2N.takes_of rfl rfl rfl rfl
  have pw : PassesOwn (model P w) (cxOf (L2N.CX P w) P w K mg base ["board", "other"] "need_pair" (defScope (top 28)) f cdv A outer s H E).A (cxOf (L2N.CX P w) P w K mg base ["board", "other"] "need_pair" (defScope (top 28)) f cdv A outer s H E).env (cxOf (L2N.CX P w) P w K mg base ["board", "other"] "need_pair" (defScope (top 28)) f cdv A outer s H E).xe := L2.passes_of rfl
  exact dss_exp1 ((ge_call tk (okg_need_board M) (hr.mono (by decide)) (by rfl) (da_cons (de_v 0) da_nil) (ln_cons ln_nil)))
    (dss1_cons (DS.one <| ds_exp (de_call tk (ok_need_board M) (hr.mono (by decide)) (by rfl) (da_cons (de_v 1) da_nil) (ln_cons ln_nil)))
    (dss1_one (ds1_if (dt1_cmp (op_neD hr.units) p_ne (nomark _) ((ge_call tk (okg_bare M) (hr.mono (by decide)) (by rfl) (da_cons (de_v 0) da_nil) (ln_cons ln_nil)).one) ((ge_call tk (okg_bare M) (hr.mono (by decide)) (by rfl) (da_cons (de_v 1) da_nil) (ln_cons ln_nil)).one)) (DSs.one <| dss_one (ds_raise (cn := 7) rfl tk (pm_own M.x_Unlike (by rfl)))) (DSs.one dss_nil))))
theorem sc_ice_at : FnScope ["board", "cell"] ["board", "cell"] (defScope (top 16)) := ⟨rfl, rfl, rfl, by decide +kernel, rfl, by decide +kernel, by decide +kernel⟩
theorem ok_ice_at (M : Md K mg w) : Has P w K mg base T (cvK K) 1 "ice_at" 2 D_ice_at := by
  obtain ⟨f, fd, F, hm⟩ := M.f_ice_at
  refine fn_d F hm (F.binds fun _ _ _ _ _ _ us hl => match us, hl with | [_, _], _ => rfl) sc_ice_at rfl (by decide) fun cdv A outer s H E hr => ?_
  have nd := sc_ice_at.nd
  have tk : Tk (cxOf (L2N.CX P w) P w K mg base ["board", "cell"] "ice_at" (defScope (top 16)) f cdv A outer s H E) E := L2N.takes_of rfl rfl rfl rfl
  have pw : PassesOwn (model P w) (cxOf (L2N.CX P w) P w K mg base ["board", "cell"] "ice_at" (defScope (top 16)) f cdv A outer s H E).A (cxOf (L2N.CX P w) P w K mg base ["board", "cell"] "ice_at" (defScope (top 16)) f cdv A outer s H E).env (cxOf (L2N.CX P w) P w K mg base ["board", "cell"] "ice_at" (defScope (top 16)) f cdv A outer s H E).xe := L2.passes_of rfl
  exact dss_one (ds_ret (de_cmp op_in_sign p_inS rfl (de_ix (de_ix (de_v 0) (de_ix (de_v 1) de_int ix_seq p_ix (fun _ _ => rfl)) ix_seq p_ix (fun _ _ => rfl)) (de_ix (de_v 1) de_int ix_seq p_ix (fun _ _ => rfl)) ix_seq p_ix (fun _ _ => rfl)) (de_str tx20)))
theorem sc_neighbours : FnScope ["board", "cell", "row", "column", "some", "one", "other"] ["board", "cell"] (defScope (top 20)) := ⟨rfl, rfl, rfl, by decide +kernel, rfl, by decide +kernel, by decide +kernel⟩
theorem ok_neighbours (M : Md K mg w) : Has P w K mg base T (cvK K) 1 "neighbours" 2 D_neighbours := by
  obtain ⟨f, fd, F, hm⟩ := M.f_neighbours
  refine fn_d F hm (F.binds fun _ _ _ _ _ _ us hl => match us, hl with | [_, _], _ => rfl) sc_neighbours rfl (by decide) fun cdv A outer s H E hr => ?_
  have nd := sc_neighbours.nd
  have tk : Tk (cxOf (L2N.CX P w) P w K mg base ["board", "cell", "row", "column", "some", "one", "other"] "neighbours" (defScope (top 20)) f cdv A outer s H E) E := L2N.takes_of rfl rfl rfl rfl
  have pw : PassesOwn (model P w) (cxOf (L2N.CX P w) P w K mg base ["board", "cell", "row", "column", "some", "one", "other"] "neighbours" (defScope (top 20)) f cdv A outer s H E).A (cxOf (L2N.CX P w) P w K mg base ["board", "cell", "row", "column", "some", "one", "other"] "neighbours" (defScope (top 20)) f cdv A outer s H E).env (cxOf (L2N.CX P w) P w K mg base ["board", "cell", "row", "column", "some", "one", "other"] "neighbours" (defScope (top 20)) f cdv A outer s H E).xe := L2.passes_of rfl
  exact dss_cons (ds_asg (de_v 1) (dg_t rfl (dgs_cons (i := 2) nd rfl (by first | exact Or.inl rfl | exact Or.inr rfl) (dgs_cons (i := 3) nd rfl (by first | exact Or.inl rfl | exact Or.inr rfl) (dgs_nil)))))
    (dss_cons (ds_set (i := 4) nd rfl (by first | exact Or.inl rfl | exact Or.inr rfl) (de_lst (da_cons (de_tup (da_cons (de_bin op_sub p_sub (de_v 2) de_int) (da_cons (de_v 3) da_nil)) (Ln.le (ln_cons (ln_cons ln_nil)))) (da_cons (de_tup (da_cons (de_v 2) (da_cons (de_bin op_sub p_sub (de_v 3) de_int) da_nil)) (Ln.le (ln_cons (ln_cons ln_nil)))) (da_cons (de_tup (da_cons (de_v 2) (da_cons (de_bin o_add p_add (de_v 3) de_int) da_nil)) (Ln.le (ln_cons (ln_cons ln_nil)))) (da_cons (de_tup (da_cons (de_bin o_add p_add (de_v 2) de_int) (da_cons (de_v 3) da_nil)) (Ln.le (ln_cons (ln_cons ln_nil)))) da_nil)))) (Ln.le (ln_cons (ln_cons (ln_cons (ln_cons ln_nil)))))))
    (dss_one (ds_ret (de_lc (own := [("one", 5), ("other", 6)]) rfl nd (di_l (de_v 4)) (blkOk_by (by kernel_rfl)) (fun _ _ _ _ _ => dg_t rfl (dgs_cons (i := 5) nd rfl (by first | exact Or.inl rfl | exact Or.inr rfl) (dgs_cons (i := 6) nd rfl (by first | exact Or.inl rfl | exact Or.inr rfl) (dgs_nil)))) (fun _ _ _ _ _ => dts_one (DW.t (dw_and (dt_chain op_le (o_lt hr.units) p_le p_lt' de_int (de_v 5) (de_callB o_len p_len (by rfl) M.m_len PySem.boot_len (da_cons (de_v 0) da_nil))) (dw_and1 (dt_chain op_le (o_lt hr.units) p_le p_lt' de_int (de_v 6) (de_callB o_len p_len (by rfl) M.m_len PySem.boot_len (da_cons (de_ix (de_v 0) de_int ix_seq p_ix (fun _ _ => rfl)) da_nil))))))) (fun _ _ _ _ _ => de_tup (da_cons (de_v 5) (da_cons (de_v 6) da_nil)) (Ln.le (ln_cons (ln_cons ln_nil))))))))
theorem sc_next_sign : FnScope ["board", "row", "column", "sign", "some", "ice", "cell", "one"] ["board", "row", "column"] (defScope (top 21)) := ⟨rfl, rfl, rfl, by decide +kernel, rfl, by decide +kernel, by decide +kernel⟩
theorem ok_next_sign (M : Md K mg w) : Has P w K mg base T (cvK K) 2 "next_sign" 3 D_next_sign := by
  obtain ⟨f, fd, F, hm⟩ := M.f_next_sign
  refine fn_d F hm (F.binds fun _ _ _ _ _ _ us hl => match us, hl with | [_, _, _], _ => rfl) sc_next_sign rfl (by decide) fun cdv A outer s H E hr => ?_
  have nd := sc_next_sign.nd
  have tk : Tk (cxOf (L2N.CX P w) P w K mg base ["board", "row", "column", "sign", "some", "ice", "cell", "one"] "next_sign" (defScope (top 21)) f cdv A outer s H E) E := L2N.takes_of rfl rfl rfl rfl
  have pw : PassesOwn (model P w) (cxOf (L2N.CX P w) P w K mg base ["board", "row", "column", "sign", "some", "ice", "cell", "one"] "next_sign" (defScope (top 21)) f cdv A outer s H E).A (cxOf (L2N.CX P w) P w K mg base ["board", "row", "column", "sign", "some", "ice", "cell", "one"] "next_sign" (defScope (top 21)) f cdv A outer s H E).env (cxOf (L2N.CX P w) P w K mg base ["board", "row", "column", "sign", "some", "ice", "cell", "one"] "next_sign" (defScope (top 21)) f cdv A outer s H E).xe := L2.passes_of rfl
  exact dss_cons (ds_set (i := 3) nd rfl (by first | exact Or.inl rfl | exact Or.inr rfl) (de_ix (de_ix (de_v 0) (de_v 1) ix_seq p_ix (fun _ _ => rfl)) (de_v 2) ix_seq p_ix (fun _ _ => rfl)))
    (dss_cons (ds_if (dt_cmp op_in_sign p_inS rfl (de_v 3) (de_str tx16)) (dss_one (ds_ret (de_v 3))) (dss_nil))
    (dss_cons (ds_setLc (i := 4) (own := [("cell", 6)]) rfl nd rfl rfl (sw_true rfl rfl rfl (by decide +kernel)) (di_l (de_call tk (ok_neighbours M) (hr.mono (by decide)) (by rfl) (da_cons (de_v 0) (da_cons (de_tup (da_cons (de_v 1) (da_cons (de_v 2) da_nil)) (Ln.le (ln_cons (ln_cons ln_nil)))) da_nil)) (ln_cons (ln_cons ln_nil)))) (blkOk_by (by kernel_rfl)) (fun _ _ _ _ _ => dg_n (i := 6) nd rfl (by first | exact Or.inl rfl | exact Or.inr rfl)) (fun _ _ _ _ _ => dts_nil) (fun _ _ _ _ _ => de_call tk0 (ok_ice_at M) (hr.mono (by decide)) (by rfl) (da_cons (de_v 0) (da_cons (de_v 6) da_nil)) (ln_cons (ln_cons ln_nil))))
    (dss_cons (ds_set (i := 5) nd rfl (by first | exact Or.inl rfl | exact Or.inr rfl) (de_callB o_len p_len (by rfl) M.m_len PySem.boot_len (da_cons (de_lc (own := [("one", 7)]) rfl nd (di_l (de_v 4)) (blkOk_by (by kernel_rfl)) (fun _ _ _ _ _ => dg_n (i := 7) nd rfl (by first | exact Or.inl rfl | exact Or.inr rfl)) (fun _ _ _ _ _ => dts_one (dt_v (de_v 7))) (fun _ _ _ _ _ => de_v 7)) da_nil)))
    (dss_one (ds_ret (de_ifE (dt_cmp (op_eqD hr.units) p_eq (nomark _) (de_bin o_mul p_mul de_int (de_v 5)) (de_callB o_len p_len (by rfl) M.m_len PySem.boot_len (da_cons (de_v 4) da_nil))) (de_v 3) (de_ifE (dt_cmp (o_gt hr.units) p_gt' (nomark _) (de_bin o_mul p_mul de_int (de_v 5)) (de_callB o_len p_len (by rfl) M.m_len PySem.boot_len (da_cons (de_v 4) da_nil))) (de_str tx17) (de_str tx18))))))))
theorem sc_ticked : FnScope ["board", "size", "row", "column"] ["board"] (defScope (top 22)) := ⟨rfl, rfl, rfl, by decide +kernel, rfl, by decide +kernel, by decide +kernel⟩
theorem ok_ticked (M : Md K mg w) : Has P w K mg base T (cvK K) 3 "ticked" 1 D_ticked := by
  obtain ⟨f, fd, F, hm⟩ := M.f_ticked
  refine fn_d F hm (F.binds fun _ _ _ _ _ _ us hl => match us, hl with | [_], _ => rfl) sc_ticked rfl (by decide) fun cdv A outer s H E hr => ?_
  have nd := sc_ticked.nd
  have tk : Tk (cxOf (L2N.CX P w) P w K mg base ["board", "size", "row", "column"] "ticked" (defScope (top 22)) f cdv A outer s H E) E := L2N.takes_of rfl rfl rfl rfl
  have pw : PassesOwn (model P w) (cxOf (L2N.CX P w) P w K mg base ["board", "size", "row", "column"] "ticked" (defScope (top 22)) f cdv A outer s H E).A (cxOf (L2N.CX P w) P w K mg base ["board", "size", "row", "column"] "ticked" (defScope (top 22)) f cdv A outer s H E).env (cxOf (L2N.CX P w) P w K mg base ["board", "size", "row", "column"] "ticked" (defScope (top 22)) f cdv A outer s H E).xe := L2.passes_of rfl
  exact dss_cons (ds_set (i := 1) nd rfl (by first | exact Or.inl rfl | exact Or.inr rfl) (de_callB o_len p_len (by rfl) M.m_len PySem.boot_len (da_cons (de_ix (de_v 0) de_int ix_seq p_ix (fun _ _ => rfl)) da_nil)))
    (dss_one (ds_ret (de_callTy call_tuple_of p_tuple (by rfl) M.m_tuple PyProof.Rows.boot_tuple (da_cons (de_lc (own := [("row", 2)]) rfl nd (di_r1 (by rfl) M.m_range (da_cons (de_callB o_len p_len (by rfl) M.m_len PySem.boot_len (da_cons (de_v 0) da_nil)) da_nil)) (blkOk_by (by kernel_rfl)) (fun _ _ _ _ _ => dg_n (i := 2) nd rfl (by first | exact Or.inl rfl | exact Or.inr rfl)) (fun _ _ _ _ _ => dts_nil) (fun _ _ _ _ _ => de_join tx15 (de_lc (own := [("column", 3)]) rfl nd (di_r1 (by rfl) M.m_range (da_cons (de_v 1) da_nil)) (blkOk_by (by kernel_rfl)) (fun _ _ _ _ _ => dg_n (i := 3) nd rfl (by first | exact Or.inl rfl | exact Or.inr rfl)) (fun _ _ _ _ _ => dts_nil) (fun _ _ _ _ _ => de_call tk0 (ok_next_sign M) (hr.mono (by decide)) (by rfl) (da_cons (de_v 0) (da_cons (de_v 2) (da_cons (de_v 3) da_nil))) (ln_cons (ln_cons (ln_cons ln_nil))))))) da_nil))))
theorem sc_fate_of : FnScope ["board", "ticks", "one"] ["board"] (defScope (top 26)) := ⟨rfl, rfl, rfl, by decide +kernel, rfl, by decide +kernel, by decide +kernel⟩
theorem ok_fate_of (M : Md K mg w) : Has P w K mg base T (cvK K) 4 "fate_of" 1 D_fate_of := by
  obtain ⟨f, fd, F, hm⟩ := M.f_fate_of
  refine fn_d F hm (F.binds fun _ _ _ _ _ _ us hl => match us, hl with | [_], _ => rfl) sc_fate_of rfl (by decide) fun cdv A outer s H E hr => ?_
  have nd := sc_fate_of.nd
  have tk : Tk (cxOf (L2N.CX P w) P w K mg base ["board", "ticks", "one"] "fate_of" (defScope (top 26)) f cdv A outer s H E) E := L2N.takes_of rfl rfl rfl rfl
  have pw : PassesOwn (model P w) (cxOf (L2N.CX P w) P w K mg base ["board", "ticks", "one"] "fate_of" (defScope (top 26)) f cdv A outer s H E).A (cxOf (L2N.CX P w) P w K mg base ["board", "ticks", "one"] "fate_of" (defScope (top 26)) f cdv A outer s H E).env (cxOf (L2N.CX P w) P w K mg base ["board", "ticks", "one"] "fate_of" (defScope (top 26)) f cdv A outer s H E).xe := L2.passes_of rfl
  exact dss_cons (ds_set (i := 1) nd rfl (by first | exact Or.inl rfl | exact Or.inr rfl) de_int)
    (dss_one (ds_while 1000 pw (dt_v de_bl) (dss_cons (ds_set (i := 2) nd rfl (by first | exact Or.inl rfl | exact Or.inr rfl) (de_call tk (ok_ticked M) (hr.mono (by decide)) (by rfl) (da_cons (de_v 0) da_nil) (ln_cons ln_nil)))
      (dss_cons (ds_if (dt_cmp (op_eqD hr.units) p_eq (nomark _) (de_v 2) (de_v 0)) (dss_one (ds_ret (de_tup (da_cons (de_v 1) (da_cons de_int da_nil)) (Ln.le (ln_cons (ln_cons ln_nil)))))) (dss_nil))
      (dss_cons (ds_if (dt_cmp (op_eqD hr.units) p_eq (nomark _) (de_call tk (ok_ticked M) (hr.mono (by decide)) (by rfl) (da_cons (de_v 2) da_nil) (ln_cons ln_nil)) (de_v 0)) (dss_one (ds_ret (de_tup (da_cons (de_v 1) (da_cons de_int da_nil)) (Ln.le (ln_cons (ln_cons ln_nil)))))) (dss_nil))
      (dss_one (ds_par (i := 0) (j := 1) rfl nd rfl rfl (by decide) rfl rfl (de_v 2) (de_bin o_add p_add (de_v 1) de_int) rfl)))))))
theorem sc_meet : FnScope ["board", "other", "ticks"] ["board", "other"] (defScope (top 29)) := ⟨rfl, rfl, rfl, by decide +kernel, rfl, by decide +kernel, by decide +kernel⟩
theorem ok_meet (M : Md K mg w) : Has P w K mg base T (cvK K) 5 "meet" 2 D_meet := by
  obtain ⟨f, fd, F, hm⟩ := M.f_meet
  refine fn_d F hm (F.binds fun _ _ _ _ _ _ us hl => match us, hl with | [_, _], _ => rfl) sc_meet rfl (by decide) fun cdv A outer s H E hr => ?_
  have nd := sc_meet.nd
  have tk : Tk (cxOf (L2N.CX P w) P w K mg base ["board", "other", "ticks"] "meet" (defScope (top 29)) f cdv A outer s H E) E := L2N.takes_of rfl rfl rfl rfl
  have pw : PassesOwn (model P w) (cxOf (L2N.CX P w) P w K mg base ["board", "other", "ticks"] "meet" (defScope (top 29)) f cdv A outer s H E).A (cxOf (L2N.CX P w) P w K mg base ["board", "other", "ticks"] "meet" (defScope (top 29)) f cdv A outer s H E).env (cxOf (L2N.CX P w) P w K mg base ["board", "other", "ticks"] "meet" (defScope (top 29)) f cdv A outer s H E).xe := L2.passes_of rfl
  exact dss_cons (ds_exp (de_call tk (ok_need_pair M) (hr.mono (by decide)) (by rfl) (da_cons (de_v 0) (da_cons (de_v 1) da_nil)) (ln_cons (ln_cons ln_nil))))
    (dss_cons (ds_for pw rfl (di_r1 (by rfl) M.m_range (da_cons (de_bin o_add p_add (de_callB (call_max2 rfl) p_max (by rfl) M.m_max (by decide +kernel) (da_cons (de_ix (de_call tk (ok_fate_of M) (hr.mono (by decide)) (by rfl) (da_cons (de_v 0) da_nil) (ln_cons ln_nil)) de_int ix_seq p_ix (fun _ _ => rfl)) (da_cons (de_ix (de_call tk (ok_fate_of M) (hr.mono (by decide)) (by rfl) (da_cons (de_v 1) da_nil) (ln_cons ln_nil)) de_int ix_seq p_ix (fun _ _ => rfl)) da_nil))) de_int) da_nil)) (dg_n (i := 2) nd rfl (by first | exact Or.inl rfl | exact Or.inr rfl)) (dss_cons (ds_if (dt_cmp (op_eqD hr.units) p_eq (nomark _) (de_v 0) (de_v 1)) (dss_one (ds_ret (de_v 2))) (dss_nil))
      (dss_one (ds_par (i := 0) (j := 1) rfl nd rfl rfl (by decide) rfl rfl (de_call tk (ok_ticked M) (hr.mono (by decide)) (by rfl) (da_cons (de_v 0) da_nil) (ln_cons ln_nil)) (de_call tk (ok_ticked M) (hr.mono (by decide)) (by rfl) (da_cons (de_v 1) da_nil) (ln_cons ln_nil)) rfl))))
    (dss_one (ds_ret de_non)))
theorem sc__law_some : FnScope ["dice", "own", "share", "cell"] ["dice", "own"] (defScope (top 43)) := ⟨rfl, rfl, rfl, by decide +kernel, rfl, by decide +kernel, by decide +kernel⟩
theorem ok__law_some (M : Md K mg w) : HasO P w K mg base T (cvK K) 3 "_law_some" 2 D__law_some := by
  obtain ⟨f, fd, F, hm⟩ := M.f__law_some
  refine fn_o F hm (F.binds fun _ _ _ _ _ _ us hl => match us, hl with | [_, _], _ => rfl) sc__law_some rfl (by decide) (by decide) fun cdv A outer s H E hr => ?_
  have nd := sc__law_some.nd
  have tk : Tk (cxOf (L2N.CX P w) P w K mg base ["dice", "own", "share", "cell"] "_law_some" (defScope (top 43)) f cdv A outer s H E) E := L2N.takes_of rfl rfl rfl rfl
  have pw : PassesOwn (model P w) (cxOf (L2N.CX P w) P w K mg base ["dice", "own", "share", "cell"] "_law_some" (defScope (top 43)) f cdv A outer s H E).A (cxOf (L2N.CX P w) P w K mg base ["dice", "own", "share", "cell"] "_law_some" (defScope (top 43)) f cdv A outer s H E).env (cxOf (L2N.CX P w) P w K mg base ["dice", "own", "share", "cell"] "_law_some" (defScope (top 43)) f cdv A outer s H E).xe := L2.passes_of rfl
  exact dss_cons (ds_set (i := 2) nd rfl (by first | exact Or.inl rfl | exact Or.inr rfl) (de_bin o_add p_add de_int (de_callO (i := 0) tk (ok__law_roll M) (hr.mono (by decide)) (by rfl) rfl (by first | exact Or.inl rfl | exact Or.inr (Or.inl rfl) | exact Or.inr (Or.inr rfl)) (da_cons de_int da_nil) (ln_cons ln_nil))))
    (dss_one (ds_ret (de_callTy call_tuple_of p_tuple (by rfl) M.m_tuple PyProof.Rows.boot_tuple (da_cons (de_lc (own := [("cell", 3)]) rfl nd (di_l (de_v 1)) (blkOk_by (by kernel_rfl)) (fun _ _ _ _ _ => dg_n (i := 3) nd rfl (by first | exact Or.inl rfl | exact Or.inr rfl)) (fun _ _ _ _ _ => dts_one (dt_cmp (op_eqD hr.units) p_eq (nomark _) (de_callO (i := 0) tk0 (ok__law_roll M) (hr.mono (by decide)) (by rfl) rfl (by first | exact Or.inl rfl | exact Or.inr (Or.inl rfl) | exact Or.inr (Or.inr rfl)) (da_cons (de_v 2) da_nil) (ln_cons ln_nil)) de_int)) (fun _ _ _ _ _ => de_v 3)) da_nil))))
theorem sc__law_term : FnScope ["e", "flags", "kinds", "flag"] ["e"] (defScope (top 35)) := ⟨rfl, rfl, rfl, by decide +kernel, rfl, by decide +kernel, by decide +kernel⟩
theorem ok__law_term (M : Md K mg w) : TermF P w K mg base T (caK K) (cvK K) kindE okE ["e", "flags", "kinds", "flag"] (top 35) 5 := by
  refine ⟨B__law_term, term_plain, fun A outer f cdv s H p c hok h1 h2 hfl hot0 hr => ?_⟩
  have nd := sc__law_term.nd
  have hz := And.intro h1 h2
  have hp : p ∈ (cxH CX0 P w K mg base ["e", "flags", "kinds", "flag"] "_law_term" (defScope (top 35)) f cdv A outer s H E0 p).pn := List.mem_singleton.mpr rfl
  have hot : Hot1 (cxH CX0 P w K mg base ["e", "flags", "kinds", "flag"] "_law_term" (defScope (top 35)) f cdv A outer s H E0 p).A p := hot0
  exact dss_cons (ds_set (i := 1) nd rfl (by first | exact Or.inl rfl | exact Or.inr rfl) (de_lst (da_cons (de_isP hp (M.er.xc _ hok) hz hfl (by rfl) M.m_isinstance (pe_glob (v := .ref (caK K 1)) (by rfl) M.g_InvalidBoard rfl) (fun z h => h) (M.er.kt _ 1 hok rfl) (de_v 0)) (da_cons (de_isP hp (M.er.xc _ hok) hz hfl (by rfl) M.m_isinstance (pe_glob (v := .ref (caK K 2)) (by rfl) M.g_InvalidCell rfl) (fun z h => h) (M.er.kt _ 2 hok rfl) (de_v 0)) (da_cons (de_isP hp (M.er.xc _ hok) hz hfl (by rfl) M.m_isinstance (pe_glob (v := .ref (caK K 3)) (by rfl) M.g_InvalidCells rfl) (fun z h => h) (M.er.kt _ 3 hok rfl) (de_v 0)) da_nil))) (Ln.le (ln_cons (ln_cons (ln_cons ln_nil))))))
    (dss_cons (ds_set (i := 1) nd rfl (by first | exact Or.inl rfl | exact Or.inr rfl) (de_bin o_add p_add (de_v 1) (de_lst (da_cons (de_isP hp (M.er.xc _ hok) hz hfl (by rfl) M.m_isinstance (pe_glob (v := .ref (caK K 4)) (by rfl) M.g_InvalidTicks rfl) (fun z h => h) (M.er.kt _ 4 hok rfl) (de_v 0)) (da_cons (de_isP hp (M.er.xc _ hok) hz hfl (by rfl) M.m_isinstance (pe_glob (v := .ref (caK K 5)) (by rfl) M.g_InvalidText rfl) (fun z h => h) (M.er.kt _ 5 hok rfl) (de_v 0)) (da_cons (de_isP hp (M.er.xc _ hok) hz hfl (by rfl) M.m_isinstance (pe_glob (v := .ref (caK K 6)) (by rfl) M.g_TooLarge rfl) (fun z h => h) (M.er.kt _ 6 hok rfl) (de_v 0)) da_nil))) (Ln.le (ln_cons (ln_cons (ln_cons ln_nil)))))))
    (dss_cons (ds_set (i := 1) nd rfl (by first | exact Or.inl rfl | exact Or.inr rfl) (de_bin o_add p_add (de_v 1) (de_lst (da_cons (de_isP hp (M.er.xc _ hok) hz hfl (by rfl) M.m_isinstance (pe_glob (v := .ref (caK K 7)) (by rfl) M.g_Unlike rfl) (fun z h => h) (M.er.kt _ 7 hok rfl) (de_v 0)) (da_cons (de_isP hp (M.er.xc _ hok) hz hfl (by rfl) M.m_isinstance (pe_glob (v := .ref (caK K 8)) (by rfl) M.g_NothingToUndo rfl) (fun z h => h) (M.er.kt _ 8 hok rfl) (de_v 0)) da_nil)) (Ln.le (ln_cons (ln_cons ln_nil))))))
    (dss_cons (ds_set (i := 2) nd rfl (by first | exact Or.inl rfl | exact Or.inr rfl) (de_lst (da_cons (de_str tx5) (da_cons (de_str tx4) (da_cons (de_str tx3) (da_cons (de_str tx2) (da_cons (de_str tx1) (da_cons (de_str tx0) da_nil)))))) (Ln.le (ln_cons (ln_cons (ln_cons (ln_cons (ln_cons (ln_cons ln_nil)))))))))
    (dss_cons (ds_set (i := 2) nd rfl (by first | exact Or.inl rfl | exact Or.inr rfl) (de_bin o_add p_add (de_v 2) (de_lst (da_cons (de_str tx7) (da_cons (de_str tx6) da_nil)) (Ln.le (ln_cons (ln_cons ln_nil))))))
    (dss_cons (ds_if (DW.t (dw_or (dt_cmp (op_neD hr.units) p_ne (nomark _) (de_callB (cr_sumP hp hot) p_sum (by rfl) M.m_sum (by decide +kernel) (da_cons (de_lcP (own := [("flag", 3)]) hp hot nd ((de_v 1)) (blkOk_by (by kernel_rfl)) (fun _ _ _ _ _ => dg_n (i := 3) nd rfl (by first | exact Or.inl rfl | exact Or.inr rfl)) (fun _ _ _ _ _ => dts_nil) (fun _ _ _ _ _ => de_callTy call_int1 p_int (by rfl) M.m_int (by decide +kernel) (da_cons (de_v 3) da_nil))) da_nil)) de_int) (dw_or1 (dt_not (dt_v (de_isP hp (M.er.xc _ hok) hz hfl (by rfl) M.m_isinstance (pe_bltn (v := .ty "ValueError") (by rfl) M.m_ValueError (by decide +kernel) rfl) (fun z h => h) (M.er.kv _ hok) (de_v 0))))))) (dss_one (ds_ret (de_tup (da_cons (de_str tx9) (da_cons (de_str tx8) da_nil)) (Ln.le (ln_cons (ln_cons ln_nil)))))) (dss_nil))
    (dss_one (ds_ret (de_tup (da_cons (de_str tx9) (da_cons (de_ix (de_v 2) (de_index hr.units65 (de_v 1) de_bl) ix_seq p_ix (fun _ _ => rfl)) da_nil)) (Ln.le (ln_cons (ln_cons ln_nil)))))))))))
theorem sc__law_told : FnScope ["deed", "e"] ["deed"] (defScope (top 36)) := ⟨rfl, rfl, rfl, by decide +kernel, rfl, by decide +kernel, by decide +kernel⟩
theorem sc__law_ice : FnScope ["board", "cell"] ["board", "cell"] (defScope (top 39)) := ⟨rfl, rfl, rfl, by decide +kernel, rfl, by decide +kernel, by decide +kernel⟩
theorem ok__law_ice (M : Md K mg w) : Has P w K mg base T (cvK K) 1 "_law_ice" 2 D__law_ice := by
  obtain ⟨f, fd, F, hm⟩ := M.f__law_ice
  refine fn_d F hm (F.binds fun _ _ _ _ _ _ us hl => match us, hl with | [_, _], _ => rfl) sc__law_ice rfl (by decide) fun cdv A outer s H E hr => ?_
  have nd := sc__law_ice.nd
  have tk : Tk (cxOf (L2N.CX P w) P w K mg base ["board", "cell"] "_law_ice" (defScope (top 39)) f cdv A outer s H E) E := L2N.takes_of rfl rfl rfl rfl
  have pw : PassesOwn (model P w) (cxOf (L2N.CX P w) P w K mg base ["board", "cell"] "_law_ice" (defScope (top 39)) f cdv A outer s H E).A (cxOf (L2N.CX P w) P w K mg base ["board", "cell"] "_law_ice" (defScope (top 39)) f cdv A outer s H E).env (cxOf (L2N.CX P w) P w K mg base ["board", "cell"] "_law_ice" (defScope (top 39)) f cdv A outer s H E).xe := L2.passes_of rfl
  exact dss_one (ds_ret (de_cmp op_in_sign p_inS rfl (de_ix (de_ix (de_v 0) (de_ix (de_v 1) de_int ix_seq p_ix (fun _ _ => rfl)) ix_seq p_ix (fun _ _ => rfl)) (de_ix (de_v 1) de_int ix_seq p_ix (fun _ _ => rfl)) ix_seq p_ix (fun _ _ => rfl)) (de_str tx20)))
theorem sc__law_near : FnScope ["board", "cell", "found", "number", "signs", "column"] ["board", "cell"] (defScope (top 40)) := ⟨rfl, rfl, rfl, by decide +kernel, rfl, by decide +kernel, by decide +kernel⟩
theorem ok__law_near (M : Md K mg w) : Has P w K mg base T (cvK K) 1 "_law_near" 2 D__law_near := by
  obtain ⟨f, fd, F, hm⟩ := M.f__law_near
  refine fn_d F hm (F.binds fun _ _ _ _ _ _ us hl => match us, hl with | [_, _], _ => rfl) sc__law_near rfl (by decide) fun cdv A outer s H E hr => ?_
  have nd := sc__law_near.nd
  have tk : Tk (cxOf (L2N.CX P w) P w K mg base ["board", "cell", "found", "number", "signs", "column"] "_law_near" (defScope (top 40)) f cdv A outer s H E) E := L2N.takes_of rfl rfl rfl rfl
  have pw : PassesOwn (model P w) (cxOf (L2N.CX P w) P w K mg base ["board", "cell", "found", "number", "signs", "column"] "_law_near" (defScope (top 40)) f cdv A outer s H E).A (cxOf (L2N.CX P w) P w K mg base ["board", "cell", "found", "number", "signs", "column"] "_law_near" (defScope (top 40)) f cdv A outer s H E).env (cxOf (L2N.CX P w) P w K mg base ["board", "cell", "found", "number", "signs", "column"] "_law_near" (defScope (top 40)) f cdv A outer s H E).xe := L2.passes_of rfl
  exact dss_cons (ds_newL (i := 2) nd rfl (by first | exact Or.inl rfl | exact Or.inr rfl) da_nil (Ln.le ln_nil))
    (dss_cons (ds_for pw rfl (di_enT (by rfl) M.m_enumerate (de_v 0)) (dg_t rfl (dgs_cons (i := 3) nd rfl (by first | exact Or.inl rfl | exact Or.inr rfl) (dgs_cons (i := 4) nd rfl (by first | exact Or.inl rfl | exact Or.inr rfl) (dgs_nil)))) (dss_one (ds_for pw rfl (di_r1 (by rfl) M.m_range (da_cons (de_callB o_len p_len (by rfl) M.m_len PySem.boot_len (da_cons (de_v 4) da_nil)) da_nil)) (dg_n (i := 5) nd rfl (by first | exact Or.inl rfl | exact Or.inr rfl)) (dss_one (ds_if (dt_cmp (op_eqD hr.units) p_eq (nomark _) (de_bin o_add p_add (de_callB call_abs p_abs (by rfl) M.m_abs (by decide +kernel) (da_cons (de_bin op_sub p_sub (de_v 3) (de_ix (de_v 1) de_int ix_seq p_ix (fun _ _ => rfl))) da_nil)) (de_callB call_abs p_abs (by rfl) M.m_abs (by decide +kernel) (da_cons (de_bin op_sub p_sub (de_v 5) (de_ix (de_v 1) de_int ix_seq p_ix (fun _ _ => rfl))) da_nil))) de_int) (dss_one (ds_app (i := 2) rfl (by first | exact Or.inl rfl | exact Or.inr (Or.inl rfl)) (de_tup (da_cons (de_v 3) (da_cons (de_v 5) da_nil)) (Ln.le (ln_cons (ln_cons ln_nil)))))) (dss_nil))))))
    (dss_frz 2 (dss_one (ds_ret (de_v 2)))))
theorem sc__law_ticked : FnScope ["board", "some", "cell", "near", "ice", "water", "one"] ["board"] (defScope (top 42)) := ⟨rfl, rfl, rfl, by decide +kernel, rfl, by decide +kernel, by decide +kernel⟩
theorem ok__law_ticked (M : Md K mg w) : Has P w K mg base T (cvK K) 2 "_law_ticked" 1 D__law_ticked := by
  obtain ⟨f, fd, F, hm⟩ := M.f__law_ticked
  refine fn_d F hm (F.binds fun _ _ _ _ _ _ us hl => match us, hl with | [_], _ => rfl) sc__law_ticked rfl (by decide) fun cdv A outer s H E hr => ?_
  have nd := sc__law_ticked.nd
  have tk : Tk (cxOf (L2N.CX P w) P w K mg base ["board", "some", "cell", "near", "ice", "water", "one"] "_law_ticked" (defScope (top 42)) f cdv A outer s H E) E := L2N.takes_of rfl rfl rfl rfl
  have pw : PassesOwn (model P w) (cxOf (L2N.CX P w) P w K mg base ["board", "some", "cell", "near", "ice", "water", "one"] "_law_ticked" (defScope (top 42)) f cdv A outer s H E).A (cxOf (L2N.CX P w) P w K mg base ["board", "some", "cell", "near", "ice", "water", "one"] "_law_ticked" (defScope (top 42)) f cdv A outer s H E).env (cxOf (L2N.CX P w) P w K mg base ["board", "some", "cell", "near", "ice", "water", "one"] "_law_ticked" (defScope (top 42)) f cdv A outer s H E).xe := L2.passes_of rfl
  exact dss_cons (ds_newL (i := 1) nd rfl (by first | exact Or.inl rfl | exact Or.inr rfl) da_nil (Ln.le ln_nil))
    (dss_cons (ds_for pw rfl (di_l (de_call tk (ok__law_free M) (hr.mono (by decide)) (by rfl) (da_cons (de_v 0) da_nil) (ln_cons ln_nil))) (dg_n (i := 2) nd rfl (by first | exact Or.inl rfl | exact Or.inr rfl)) (dss_cons (ds_setLc (i := 3) (own := [("one", 6)]) rfl nd rfl rfl (sw_true rfl rfl rfl (by decide +kernel)) (di_l (de_call tk (ok__law_near M) (hr.mono (by decide)) (by rfl) (da_cons (de_v 0) (da_cons (de_v 2) da_nil)) (ln_cons (ln_cons ln_nil)))) (blkOk_by (by kernel_rfl)) (fun _ _ _ _ _ => dg_n (i := 6) nd rfl (by first | exact Or.inl rfl | exact Or.inr rfl)) (fun _ _ _ _ _ => dts_nil) (fun _ _ _ _ _ => de_call tk0 (ok__law_ice M) (hr.mono (by decide)) (by rfl) (da_cons (de_v 0) (da_cons (de_v 6) da_nil)) (ln_cons (ln_cons ln_nil))))
      (dss_cons (ds_set (i := 4) nd rfl (by first | exact Or.inl rfl | exact Or.inr rfl) (de_cnt hr.units65 (de_v 3) de_bl))
      (dss_cons (ds_set (i := 5) nd rfl (by first | exact Or.inl rfl | exact Or.inr rfl) (de_bin op_sub p_sub (de_callB o_len p_len (by rfl) M.m_len PySem.boot_len (da_cons (de_v 3) da_nil)) (de_v 4)))
      (dss_one (ds_if (DW.t (dw_or (dt_cmp (o_gt hr.units) p_gt' (nomark _) (de_v 4) (de_v 5)) (dw_or1 (DW.t (dw_and (dt_cmp (op_eqD hr.units) p_eq (nomark _) (de_v 4) (de_v 5)) (dw_and1 (dt_v (de_call tk (ok__law_ice M) (hr.mono (by decide)) (by rfl) (da_cons (de_v 0) (da_cons (de_v 2) da_nil)) (ln_cons (ln_cons ln_nil)))))))))) (dss_one (ds_app (i := 1) rfl (by first | exact Or.inl rfl | exact Or.inr (Or.inl rfl)) (de_v 2))) (dss_nil)))))))
    (dss_frz 1 (dss_one (ds_ret (de_call tk (ok__law_laid M) (hr.mono (by decide)) (by rfl) (da_cons (de_v 0) (da_cons (de_v 1) da_nil)) (ln_cons (ln_cons ln_nil)))))))
theorem sc_is_whole : FnScope ["value", "low", "high"] ["value", "low", "high"] (defScope (top 12)) := ⟨rfl, rfl, rfl, by decide +kernel, rfl, by decide +kernel, by decide +kernel⟩
theorem ok_is_whole (M : Md K mg w) : Has P w K mg base T (cvK K) 1 "is_whole" 3 D_is_whole := by
  obtain ⟨f, fd, F, hm⟩ := M.f_is_whole
  refine fn_d F hm (F.binds fun _ _ _ _ _ _ us hl => match us, hl with | [_, _, _], _ => rfl) sc_is_whole rfl (by decide) fun cdv A outer s H E hr => ?_
  have nd := sc_is_whole.nd
  have tk : Tk (cxOf (L2N.CX P w) P w K mg base ["value", "low", "high"] "is_whole" (defScope (top 12)) f cdv A outer s H E) E := L2N.takes_of rfl rfl rfl rfl
  have pw : PassesOwn (model P w) (cxOf (L2N.CX P w) P w K mg base ["value", "low", "high"] "is_whole" (defScope (top 12)) f cdv A outer s H E).A (cxOf (L2N.CX P w) P w K mg base ["value", "low", "high"] "is_whole" (defScope (top 12)) f cdv A outer s H E).env (cxOf (L2N.CX P w) P w K mg base ["value", "low", "high"] "is_whole" (defScope (top 12)) f cdv A outer s H E).xe := L2.passes_of rfl
  exact dss_one (ds_ret (de_and (de_isi (t := 0) (by decide) (by rfl) M.m_isinstance (by rfl) M.m_int (by decide +kernel) (de_v 0)) (de_and (de_not (de_isi (t := 1) (by decide) (by rfl) M.m_isinstance (by rfl) M.m_bool (by decide +kernel) (de_v 0))) (de_one (de_chain op_le op_le p_le p_le (de_v 1) (de_v 0) (de_v 2))))))
theorem sc_need_ticks : FnScope ["ticks"] ["ticks"] (defScope (top 23)) := ⟨rfl, rfl, rfl, by decide +kernel, rfl, by decide +kernel, by decide +kernel⟩
theorem ok_need_ticks (M : Md K mg w) : Has P w K mg base T (cvK K) 2 "need_ticks" 1 D_need_ticks := by
  obtain ⟨f, fd, F, hm⟩ := M.f_need_ticks
  refine fn_d F hm (F.binds fun _ _ _ _ _ _ us hl => match us, hl with | [_], _ => rfl) sc_need_ticks rfl (by decide) fun cdv A outer s H E hr => ?_
  have nd := sc_need_ticks.nd
  have tk : Tk (cxOf (L2N.CX P w) P w K mg base ["ticks"] "need_ticks" (defScope (top 23)) f cdv A outer s H E) E := L2N.takes_of rfl rfl rfl rfl
  have pw : PassesOwn (model P w) (cxOf (L2N.CX P w) P w K mg base ["ticks"] "need_ticks" (defScope (top 23)) f cdv A outer s H E).A (cxOf (L2N.CX P w) P w K mg base ["ticks"] "need_ticks" (defScope (top 23)) f cdv A outer s H E).env (cxOf (L2N.CX P w) P w K mg base ["ticks"] "need_ticks" (defScope (top 23)) f cdv A outer s H E).xe := L2.passes_of rfl
  exact dss_one (ds_if (dt_not (dt_v (de_call tk (ok_is_whole M) (hr.mono (by decide)) (by rfl) (da_cons (de_v 0) (da_cons de_int (da_cons de_int da_nil))) (ln_cons (ln_cons (ln_cons ln_nil)))))) (dss_one (ds_raise (cn := 4) rfl tk (pm_own M.x_InvalidTicks (by rfl)))) (dss_nil))
theorem sc_later : FnScope ["board", "ticks", "turn"] ["board", "ticks"] (defScope (top 24)) := ⟨rfl, rfl, rfl, by decide +kernel, rfl, by decide +kernel, by decide +kernel⟩
theorem ok_later (M : Md K mg w) : Has P w K mg base T (cvK K) 4 "later" 2 D_later := by
  obtain ⟨f, fd, F, hm⟩ := M.f_later
  refine fn_d F hm (F.binds fun _ _ _ _ _ _ us hl => match us, hl with | [_, _], _ => rfl) sc_later rfl (by decide) fun cdv A outer s H E hr => ?_
  have nd := sc_later.nd
  have tk : Tk (cxOf (L2N.CX P w) P w K mg base ["board", "ticks", "turn"] "later" (defScope (top 24)) f cdv A outer s H E) E := L2N.takes_of rfl rfl rfl rfl
  have pw : PassesOwn (model P w) (cxOf (L2N.CX P w) P w K mg base ["board", "ticks", "turn"] "later" (defScope (top 24)) f cdv A outer s H E).A (cxOf (L2N.CX P w) P w K mg base ["board", "ticks", "turn"] "later" (defScope (top 24)) f cdv A outer s H E).env (cxOf (L2N.CX P w) P w K mg base ["board", "ticks", "turn"] "later" (defScope (top 24)) f cdv A outer s H E).xe := L2.passes_of rfl
  exact dss_cons (ds_for pw rfl (di_r1 (by rfl) M.m_range (da_cons (de_v 1) da_nil)) (dg_n (i := 2) nd rfl (by first | exact Or.inl rfl | exact Or.inr rfl)) (dss_one (ds_set (i := 0) nd rfl (by first | exact Or.inl rfl | exact Or.inr rfl) (de_call tk (ok_ticked M) (hr.mono (by decide)) (by rfl) (da_cons (de_v 0) da_nil) (ln_cons ln_nil)))))
    (dss_one (ds_ret (de_v 0)))
theorem sc_after : FnScope ["board", "ticks"] ["board", "ticks"] (defScope (top 25)) := ⟨rfl, rfl, rfl, by decide +kernel, rfl, by decide +kernel, by decide +kernel⟩
theorem ok_after (M : Md K mg w) : Has P w K mg base T (cvK K) 5 "after" 2 D_after := by
  obtain ⟨f, fd, F, hm⟩ := M.f_after
  refine fn_d F hm (F.binds fun _ _ _ _ _ _ us hl => match us, hl with | [_, _], _ => rfl) sc_after rfl (by decide) fun cdv A outer s H E hr => ?_
  have nd := sc_after.nd
  have tk : Tk (cxOf (L2N.CX P w) P w K mg base ["board", "ticks"] "after" (defScope (top 25)) f cdv A outer s H E) E := L2N.takes_of rfl rfl rfl rfl
  have pw : PassesOwn (model P w) (cxOf (L2N.CX P w) P w K mg base ["board", "ticks"] "after" (defScope (top 25)) f cdv A outer s H E).A (cxOf (L2N.CX P w) P w K mg base ["board", "ticks"] "after" (defScope (top 25)) f cdv A outer s H E).env (cxOf (L2N.CX P w) P w K mg base ["board", "ticks"] "after" (defScope (top 25)) f cdv A outer s H E).xe := L2.passes_of rfl
  exact dss_cons (ds_exp (de_call tk (ok_need_board M) (hr.mono (by decide)) (by rfl) (da_cons (de_v 0) da_nil) (ln_cons ln_nil)))
    (dss_cons (ds_exp (de_call tk (ok_need_ticks M) (hr.mono (by decide)) (by rfl) (da_cons (de_v 1) da_nil) (ln_cons ln_nil)))
    (dss_one (ds_ret (de_call tk (ok_later M) (hr.mono (by decide)) (by rfl) (da_cons (de_v 0) (da_cons (de_v 1) da_nil)) (ln_cons (ln_cons ln_nil))))))
theorem sc_exchanged : FnScope ["board", "signs", "sign"] ["board"] (defScope (top 18)) := ⟨rfl, rfl, rfl, by decide +kernel, rfl, by decide +kernel, by decide +kernel⟩
theorem ok_exchanged (M : Md K mg w) : Has P w K mg base T (cvK K) 4 "exchanged" 1 D_exchanged := by
  obtain ⟨f, fd, F, hm⟩ := M.f_exchanged
  refine fn_d F hm (F.binds fun _ _ _ _ _ _ us hl => match us, hl with | [_], _ => rfl) sc_exchanged rfl (by decide) fun cdv A outer s H E hr => ?_
  have nd := sc_exchanged.nd
  have tk : Tk (cxOf (L2N.CX P w) P w K mg base ["board", "signs", "sign"] "exchanged" (defScope (top 18)) f cdv A outer s H E) E := L2N.takes_of rfl rfl rfl rfl
  have pw : PassesOwn (model P w) (cxOf (L2N.CX P w) P w K mg base ["board", "signs", "sign"] "exchanged" (defScope (top 18)) f cdv A outer s H E).A (cxOf (L2N.CX P w) P w K mg base ["board", "signs", "sign"] "exchanged" (defScope (top 18)) f cdv A outer s H E).env (cxOf (L2N.CX P w) P w K mg base ["board", "signs", "sign"] "exchanged" (defScope (top 18)) f cdv A outer s H E).xe := L2.passes_of rfl
  exact dss_cons (ds_exp (de_call tk (ok_need_board M) (hr.mono (by decide)) (by rfl) (da_cons (de_v 0) da_nil) (ln_cons ln_nil)))
    (dss_one (ds_ret (de_callTy call_tuple_of p_tuple (by rfl) M.m_tuple PyProof.Rows.boot_tuple (da_cons (de_lc (own := [("signs", 1)]) rfl nd (di_t (de_v 0)) (blkOk_by (by kernel_rfl)) (fun _ _ _ _ _ => dg_n (i := 1) nd rfl (by first | exact Or.inl rfl | exact Or.inr rfl)) (fun _ _ _ _ _ => dts_nil) (fun _ _ _ _ _ => de_join tx15 (de_lc (own := [("sign", 2)]) rfl nd (di_s (de_v 1)) (blkOk_by (by kernel_rfl)) (fun _ _ _ _ _ => dg_n (i := 2) nd rfl (by first | exact Or.inl rfl | exact Or.inr rfl)) (fun _ _ _ _ _ => dts_nil) (fun _ _ _ _ _ => de_tab (by rfl) M.tab (de_v 2) (fun _ _ => rfl))))) da_nil))))
theorem sc_law : FnScope ["script", "dice", "board", "own", "other", "cell", "due", "one", "two", "tick", "made", "unlike"] ["script"] (defScope (top 44)) := ⟨rfl, rfl, rfl, by decide +kernel, rfl, by decide +kernel, by decide +kernel⟩
theorem ok_law (M : Md K mg w) (hf : ∀ c : Int, ∃ r', B_law ((List.replicate 12 Sl.un).set 1 (.bor [.int c, .int 0])) = .ok .nx r' ∧ r'.length = 12) {f : Addr} {fd : FuncData} (F : Fun K "law" "law" (top 44) f fd) (hfa : f = He.fAd K ("law", none)) (TB : LamX.TabB base mg (He.cT K ("law", none)).1 (He.cT K ("law", none)).2) : FnOk P w K mg base (L2N.CX P w) 9 f fd ["script"] (spLaw (tabs9 K) K) := by
  refine Fun.okC F hfa sc_law (fun vs H Q E h => ?_) fun cdv hcdv A outer s H vs Q E hr h => ?_
  · obtain ⟨a, ns, e, _⟩ := h
    rw [e]
    rfl
  · obtain ⟨a, ns, e, hb, hA, hT, q⟩ := h
    subst e
    have nd := sc_law.nd
    have tk : Tk (cxOf (L2N.CX P w) P w K mg base ["script", "dice", "board", "own", "other", "cell", "due", "one", "two", "tick", "made", "unlike"] "law" (defScope (top 44)) f cdv A outer s H E) E := L2N.takes_of rfl rfl rfl rfl
    have pw : PassesOwn (model P w) (cxOf (L2N.CX P w) P w K mg base ["script", "dice", "board", "own", "other", "cell", "due", "one", "two", "tick", "made", "unlike"] "law" (defScope (top 44)) f cdv A outer s H E).A (cxOf (L2N.CX P w) P w K mg base ["script", "dice", "board", "own", "other", "cell", "due", "one", "two", "tick", "made", "unlike"] "law" (defScope (top 44)) f cdv A outer s H E).env (cxOf (L2N.CX P w) P w K mg base ["script", "dice", "board", "own", "other", "cell", "due", "one", "two", "tick", "made", "unlike"] "law" (defScope (top 44)) f cdv A outer s H E).xe := L2.passes_of rfl
    obtain ⟨g, gd, Fg, gm⟩ := M.f__law_told
    obtain ⟨gt, td, Ft, tm⟩ := M.f__law_term
    have TF : ToldF (cxOf (L2N.CX P w) P w K mg base ["script", "dice", "board", "own", "other", "cell", "due", "one", "two", "tick", "made", "unlike"] "law" (defScope (top 44)) f cdv A outer s H E) (tabs9 K) (cvK K) kindE okE 5 := told_of (X := cxOf (L2N.CX P w) P w K mg base ["script", "dice", "board", "own", "other", "cell", "due", "one", "two", "tick", "made", "unlike"] "law" (defScope (top 44)) f cdv A outer s H E) (ca := caK K) (sg := top 36) (st := top 35) cv_ca Fg gm (Fg.binds fun _ _ _ _ _ _ us hl => match us, hl with | [_], _ => rfl) (by rfl) sc__law_told (.inl rfl) (.inl rfl) rfl rfl rfl Ft tm (Ft.binds fun _ _ _ _ _ _ us hl => match us, hl with | [_], _ => rfl) sc__law_term (by decide) M.er (ok__law_term M) TB hcdv (List.mem_singleton.mpr rfl) (fun p hp _ => by rw [List.mem_singleton.mp hp]; rfl) (hr.mono (by decide)) (by rfl)
    obtain ⟨ra, rfd, rps, g1, g2, g3, g4⟩ := ok__law_rounds (P := P) (base := base) (T := tabs9 K) M
    exact law_body (T := tabs9 K) (cv := cvK K) (E := E) (n := 12) (di := 1) pw tk rfl g4 (hr.mono (by decide)) (by rfl) g1 g2 g3 rfl (by first | exact Or.inl rfl | exact Or.inr (Or.inl rfl) | exact Or.inr (Or.inr rfl)) nd rfl (by first | exact Or.inl rfl | exact Or.inr rfl)
      (dss_cons (ds_set (i := 2) nd rfl (by first | exact Or.inl rfl | exact Or.inr rfl) (de_callO (i := 1) tk (ok__law_any_board M) (hr.mono (by decide)) (by rfl) rfl (by first | exact Or.inl rfl | exact Or.inr (Or.inl rfl) | exact Or.inr (Or.inr rfl)) (da_cons de_int da_nil) (ln_cons ln_nil)))
          (dss_cons (ds_set (i := 3) nd rfl (by first | exact Or.inl rfl | exact Or.inr rfl) (de_call tk (ok__law_free M) (hr.mono (by decide)) (by rfl) (da_cons (de_v 2) da_nil) (ln_cons ln_nil)))
          (dss_cons (ds_set (i := 4) nd rfl (by first | exact Or.inl rfl | exact Or.inr rfl) (de_call tk (ok__law_laid M) (hr.mono (by decide)) (by rfl) (da_cons (de_v 2) (da_cons (de_callO (i := 1) tk (ok__law_some M) (hr.mono (by decide)) (by rfl) rfl (by first | exact Or.inl rfl | exact Or.inr (Or.inl rfl) | exact Or.inr (Or.inr rfl)) (da_cons (de_v 3) da_nil) (ln_cons ln_nil)) da_nil)) (ln_cons (ln_cons ln_nil))))
          (dss_cons (ds_if (DW.t (dw_and (dt_cmp (op_eqD hr.units) p_eq (nomark _) (de_callO (i := 1) tk (ok__law_roll M) (hr.mono (by decide)) (by rfl) rfl (by first | exact Or.inl rfl | exact Or.inr (Or.inl rfl) | exact Or.inr (Or.inr rfl)) (da_cons de_int da_nil) (ln_cons ln_nil)) de_int) (dw_and1 (dt_cmp (op_neD hr.units) p_ne (nomark _) (de_v 3) (de_lst da_nil (Ln.le ln_nil)))))) (dss_cons (ds_set (i := 5) nd rfl (by first | exact Or.inl rfl | exact Or.inr rfl) (de_ix (de_v 3) (de_callO (i := 1) tk (ok__law_roll M) (hr.mono (by decide)) (by rfl) rfl (by first | exact Or.inl rfl | exact Or.inr (Or.inl rfl) | exact Or.inr (Or.inr rfl)) (da_cons (de_callB o_len p_len (by rfl) M.m_len PySem.boot_len (da_cons (de_v 3) da_nil)) da_nil) (ln_cons ln_nil)) ix_seq p_ix (fun _ _ => rfl)))
            (dss_one (ds_set (i := 4) nd rfl (by first | exact Or.inl rfl | exact Or.inr rfl) (de_call tk (ok__law_laid M) (hr.mono (by decide)) (by rfl) (da_cons (de_v 2) (da_cons (de_lc (own := [("one", 7)]) rfl nd (di_l (de_v 3)) (blkOk_by (by kernel_rfl)) (fun _ _ _ _ _ => dg_n (i := 7) nd rfl (by first | exact Or.inl rfl | exact Or.inr rfl)) (fun _ _ _ _ _ => dts_one (dt_cmp (op_neD hr.units) p_ne (nomark _) (de_call tk0 (ok__law_ice M) (hr.mono (by decide)) (by rfl) (da_cons (de_v 2) (da_cons (de_v 7) da_nil)) (ln_cons (ln_cons ln_nil))) (de_cmp (op_eqD hr.units) p_eq (nomark _) (de_v 7) (de_v 5)))) (fun _ _ _ _ _ => de_v 7)) da_nil)) (ln_cons (ln_cons ln_nil)))))) (dss_nil))
          (dss_cons (ds_par3 (i := 6) (j := 7) (l := 8) rfl nd rfl rfl rfl (by decide) (by decide) (by decide) rfl rfl rfl de_non (de_v 2) (de_v 4) rfl)
          (dss_cons (ds_for pw rfl (di_r1 (by rfl) M.m_range (da_cons de_int da_nil)) (dg_n (i := 9) nd rfl (by first | exact Or.inl rfl | exact Or.inr rfl)) (dss_cons (ds_if (DW.t (dw_and (dt_cmp op_isN p_isN (nomark _) (de_v 6) de_non) (dw_and1 (dt_cmp (op_eqD hr.units) p_eq (nomark _) (de_v 7) (de_v 8))))) (dss_one (ds_set (i := 6) nd rfl (by first | exact Or.inl rfl | exact Or.inr rfl) (de_v 9))) (dss_nil))
            (dss_one (ds_par (i := 7) (j := 8) rfl nd rfl rfl (by decide) rfl rfl (de_call tk (ok__law_ticked M) (hr.mono (by decide)) (by rfl) (da_cons (de_v 7) da_nil) (ln_cons ln_nil)) (de_call tk (ok__law_ticked M) (hr.mono (by decide)) (by rfl) (da_cons (de_v 8) da_nil) (ln_cons ln_nil)) rfl))))
          (dss_cons (ds_set (i := 10) nd rfl (by first | exact Or.inl rfl | exact Or.inr rfl) (de_call tk (ok_meet M) (hr.mono (by decide)) (by rfl) (da_cons (de_v 2) (da_cons (de_v 4) da_nil)) (ln_cons (ln_cons ln_nil))))
          (dss_cons (ds_if (DW.t (dw_or (dt_cmp (op_neD hr.units) p_ne (nomark _) (de_v 10) (de_v 6)) (dw_or (dt_cmp (op_neD hr.units) p_ne (nomark _) (de_call tk (ok_meet M) (hr.mono (by decide)) (by rfl) (da_cons (de_v 4) (da_cons (de_v 2) da_nil)) (ln_cons (ln_cons ln_nil))) (de_v 6)) (dw_or1 (dt_cmp (op_neD hr.units) p_ne (nomark _) (de_call tk (ok_meet M) (hr.mono (by decide)) (by rfl) (da_cons (de_v 2) (da_cons (de_v 2) da_nil)) (ln_cons (ln_cons ln_nil))) de_int))))) (dss_one (ds_ret de_bl)) (dss_nil))
          (dss_cons (ds_if (dt_cmp op_notN p_notN (nomark _) (de_v 10) de_non) (dss_cons (ds_if (dt_cmp (op_neD hr.units) p_ne (nomark _) (de_call tk (ok_after M) (hr.mono (by decide)) (by rfl) (da_cons (de_v 2) (da_cons (de_v 10) da_nil)) (ln_cons (ln_cons ln_nil))) (de_call tk (ok_after M) (hr.mono (by decide)) (by rfl) (da_cons (de_v 4) (da_cons (de_v 10) da_nil)) (ln_cons (ln_cons ln_nil)))) (dss_one (ds_ret de_bl)) (dss_nil))
            (dss_cons (ds_if (dt_cmp (op_neD hr.units) p_ne (nomark _) (de_call tk (ok_after M) (hr.mono (by decide)) (by rfl) (da_cons (de_v 2) (da_cons (de_bin o_add p_add (de_v 10) de_int) da_nil)) (ln_cons (ln_cons ln_nil))) (de_call tk (ok_after M) (hr.mono (by decide)) (by rfl) (da_cons (de_v 4) (da_cons (de_bin o_add p_add (de_v 10) de_int) da_nil)) (ln_cons (ln_cons ln_nil)))) (dss_one (ds_ret de_bl)) (dss_nil))
            (dss_one (ds_if (DW.t (dw_and (dt_cmp (o_gt hr.units) p_gt' (nomark _) (de_v 10) de_int) (dw_and1 (dt_cmp (op_eqD hr.units) p_eq (nomark _) (de_call tk (ok_after M) (hr.mono (by decide)) (by rfl) (da_cons (de_v 2) (da_cons (de_bin op_sub p_sub (de_v 10) de_int) da_nil)) (ln_cons (ln_cons ln_nil))) (de_call tk (ok_after M) (hr.mono (by decide)) (by rfl) (da_cons (de_v 4) (da_cons (de_bin op_sub p_sub (de_v 10) de_int) da_nil)) (ln_cons (ln_cons ln_nil))))))) (dss_one (ds_ret de_bl)) (dss_nil))))) (dss_nil))
          (dss_cons (ds_if (dt_cmp (op_neD hr.units) p_ne (nomark _) (de_call tk (ok_meet M) (hr.mono (by decide)) (by rfl) (da_cons (de_call tk (ok_exchanged M) (hr.mono (by decide)) (by rfl) (da_cons (de_v 2) da_nil) (ln_cons ln_nil)) (da_cons (de_call tk (ok_exchanged M) (hr.mono (by decide)) (by rfl) (da_cons (de_v 4) da_nil) (ln_cons ln_nil)) da_nil)) (ln_cons (ln_cons ln_nil))) (de_v 10)) (dss_one (ds_ret de_bl)) (dss_nil))
          (dss_cons (ds_set (i := 11) nd rfl (by first | exact Or.inl rfl | exact Or.inr rfl) (de_ifE (dt_cmp (o_gt hr.units) p_gt' (nomark _) (de_bin o_mul p_mul (de_callB o_len p_len (by rfl) M.m_len PySem.boot_len (da_cons (de_v 2) da_nil)) (de_callB o_len p_len (by rfl) M.m_len PySem.boot_len (da_cons (de_ix (de_v 2) de_int ix_seq p_ix (fun _ _ => rfl)) da_nil))) de_int) (de_tup (da_cons (de_str tx17) da_nil) (Ln.le (ln_cons ln_nil))) (de_tup (da_cons (de_str tx21) da_nil) (Ln.le (ln_cons ln_nil)))))
          (dss_one (ds_if (dt_cmp (op_neD hr.units) p_ne (nomark _) (de_told TF (lamS_by (by kernel_rfl)) (by rfl) (fun _ _ _ _ _ => rfl) (fun _ _ _ _ _ _ _ hr => de_call tk_lamN (ok_meet M) (hr.mono (by decide)) (by rfl) (da_cons (de_v 2) (da_cons (de_v 11) da_nil)) (ln_cons (ln_cons ln_nil)))) (de_tup (da_cons (de_str tx9) (da_cons (de_str tx7) da_nil)) (Ln.le (ln_cons (ln_cons ln_nil))))) (dss_one (ds_ret de_bl)) (dss_nil))))))))))))))
      rfl (by decide) rfl hA hT hb (by decide) hf q
end
def d_is_whole : He.DefD := ⟨("is_whole", none), "is_whole", "is_whole", defArgs (top 12), defBody (top 12), defScope (top 12), [], []⟩
def d_is_row : He.DefD := ⟨("is_row", none), "is_row", "is_row", defArgs (top 13), defBody (top 13), defScope (top 13), [], []⟩
def d_is_board : He.DefD := ⟨("is_board", none), "is_board", "is_board", defArgs (top 14), defBody (top 14), defScope (top 14), [], []⟩
def d_need_board : He.DefD := ⟨("need_board", none), "need_board", "need_board", defArgs (top 15), defBody (top 15), defScope (top 15), [], []⟩
def d_ice_at : He.DefD := ⟨("ice_at", none), "ice_at", "ice_at", defArgs (top 16), defBody (top 16), defScope (top 16), [], []⟩
def d_bare : He.DefD := ⟨("bare", none), "bare", "bare", defArgs (top 17), defBody (top 17), defScope (top 17), [], []⟩
def d_exchanged : He.DefD := ⟨("exchanged", none), "exchanged", "exchanged", defArgs (top 18), defBody (top 18), defScope (top 18), [], []⟩
def d_neighbours : He.DefD := ⟨("neighbours", none), "neighbours", "neighbours", defArgs (top 20), defBody (top 20), defScope (top 20), [], []⟩
def d_next_sign : He.DefD := ⟨("next_sign", none), "next_sign", "next_sign", defArgs (top 21), defBody (top 21), defScope (top 21), [], []⟩
def d_ticked : He.DefD := ⟨("ticked", none), "ticked", "ticked", defArgs (top 22), defBody (top 22), defScope (top 22), [], []⟩
def d_need_ticks : He.DefD := ⟨("need_ticks", none), "need_ticks", "need_ticks", defArgs (top 23), defBody (top 23), defScope (top 23), [], []⟩
def d_later : He.DefD := ⟨("later", none), "later", "later", defArgs (top 24), defBody (top 24), defScope (top 24), [], []⟩
def d_after : He.DefD := ⟨("after", none), "after", "after", defArgs (top 25), defBody (top 25), defScope (top 25), [], []⟩
def d_fate_of : He.DefD := ⟨("fate_of", none), "fate_of", "fate_of", defArgs (top 26), defBody (top 26), defScope (top 26), [], []⟩
def d_need_pair : He.DefD := ⟨("need_pair", none), "need_pair", "need_pair", defArgs (top 28), defBody (top 28), defScope (top 28), [], []⟩
def d_meet : He.DefD := ⟨("meet", none), "meet", "meet", defArgs (top 29), defBody (top 29), defScope (top 29), [], []⟩
def d__law_cell : He.DefD := ⟨("_law_cell", none), "_law_cell", "_law_cell", defArgs (top 31), defBody (top 31), defScope (top 31), [], []⟩
def d__law_drawn : He.DefD := ⟨("_law_drawn", none), "_law_drawn", "_law_drawn", defArgs (top 32), defBody (top 32), defScope (top 32), [], []⟩
def d__law_roll : He.DefD := ⟨("_law_roll", none), "_law_roll", "_law_roll", defArgs (top 33), defBody (top 33), defScope (top 33), [], []⟩
def d__law_rounds : He.DefD := ⟨("_law_rounds", none), "_law_rounds", "_law_rounds", defArgs (top 34), defBody (top 34), defScope (top 34), [], []⟩
def d__law_term : He.DefD := ⟨("_law_term", none), "_law_term", "_law_term", defArgs (top 35), defBody (top 35), defScope (top 35), [], []⟩
def d__law_told : He.DefD := ⟨("_law_told", none), "_law_told", "_law_told", defArgs (top 36), defBody (top 36), defScope (top 36), [], []⟩
def d__law_any_board : He.DefD := ⟨("_law_any_board", none), "_law_any_board", "_law_any_board", defArgs (top 37), defBody (top 37), defScope (top 37), [], []⟩
def d__law_free : He.DefD := ⟨("_law_free", none), "_law_free", "_law_free", defArgs (top 38), defBody (top 38), defScope (top 38), [], []⟩
def d__law_ice : He.DefD := ⟨("_law_ice", none), "_law_ice", "_law_ice", defArgs (top 39), defBody (top 39), defScope (top 39), [], []⟩
def d__law_near : He.DefD := ⟨("_law_near", none), "_law_near", "_law_near", defArgs (top 40), defBody (top 40), defScope (top 40), [], []⟩
def d__law_laid : He.DefD := ⟨("_law_laid", none), "_law_laid", "_law_laid", defArgs (top 41), defBody (top 41), defScope (top 41), [], []⟩
def d__law_ticked : He.DefD := ⟨("_law_ticked", none), "_law_ticked", "_law_ticked", defArgs (top 42), defBody (top 42), defScope (top 42), [], []⟩
def d__law_some : He.DefD := ⟨("_law_some", none), "_law_some", "_law_some", defArgs (top 43), defBody (top 43), defScope (top 43), [], []⟩
def d_law : He.DefD := ⟨("law", none), "law", "law", defArgs (top 44), defBody (top 44), defScope (top 44), [], []⟩
def fa0 : List He.Fa := [.glo "is_whole", .glo "is_row", .glo "is_board", .glo "need_board", .glo "ice_at", .glo "bare", .glo "exchanged", .glo "neighbours", .glo "next_sign", .glo "ticked", .glo "need_ticks", .glo "later", .glo "after", .glo "fate_of", .glo "need_pair", .glo "meet", .glo "_law_cell", .glo "_law_drawn", .glo "_law_roll", .glo "_law_rounds", .glo "_law_term", .glo "_law_told", .glo "_law_any_board", .glo "_law_free"]
def fa1 : List He.Fa := [.glo "_law_ice", .glo "_law_near", .glo "_law_laid", .glo "_law_ticked", .glo "_law_some", .glo "law", .glo "FrostError", .glo "InvalidBoard", .glo "InvalidCell", .glo "InvalidCells", .glo "InvalidTicks", .glo "InvalidText", .glo "TooLarge", .glo "Unlike", .glo "NothingToUndo", .glo "OTHER", .free "ValueError", .free "abs", .free "all", .free "bool", .free "enumerate", .free "int", .free "isinstance", .free "len"]
def fa2 : List He.Fa := [.free "max", .free "min", .free "range", .free "str", .free "sum", .free "tuple", .exc "FrostError", .exc "InvalidBoard", .exc "InvalidCell", .exc "InvalidCells", .exc "InvalidTicks", .exc "InvalidText", .exc "TooLarge", .exc "Unlike", .exc "NothingToUndo", .exm "FrostError" "FrostError" true, .exm "InvalidBoard" "FrostError" true, .exm "InvalidCell" "FrostError" true, .exm "InvalidCells" "FrostError" true, .exm "InvalidTicks" "FrostError" true, .exm "InvalidText" "FrostError" true, .exm "TooLarge" "FrostError" true, .exm "Unlike" "FrostError" true, .exm "NothingToUndo" "FrostError" true]
def fa : List He.Fa := fa0 ++ fa1 ++ fa2
def fn0 : List He.DefD := [d_is_whole, d_is_row, d_is_board, d_need_board, d_ice_at, d_bare, d_exchanged, d_neighbours, d_next_sign, d_ticked, d_need_ticks, d_later, d_after, d_fate_of, d_need_pair, d_meet, d__law_cell, d__law_drawn, d__law_roll, d__law_rounds, d__law_term, d__law_told, d__law_any_board, d__law_free]
def fn1 : List He.DefD := [d__law_ice, d__law_near, d__law_laid, d__law_ticked, d__law_some, d_law]
def fn : List He.DefD := fn0 ++ fn1
def loose0 : List Str := ["is_whole", "is_row", "is_board", "need_board", "ice_at", "bare", "exchanged", "neighbours", "next_sign", "ticked", "need_ticks", "later", "after", "fate_of", "need_pair", "meet", "_law_cell", "_law_drawn", "_law_roll", "_law_rounds", "_law_term", "_law_told", "_law_any_board", "_law_free"]
def loose1 : List Str := ["_law_ice", "_law_near", "_law_laid", "_law_ticked", "_law_some", "FrostError", "InvalidBoard", "InvalidCell", "InvalidCells", "InvalidTicks", "InvalidText", "TooLarge", "Unlike", "NothingToUndo", "OTHER"]
def loose : List Str := loose0 ++ loose1
abbrev R9 : PySem.W.OpenRow := PySem.W.OpenLaw.row PySem.Challenge.rw_frostboard_k16_whole_meetings
abbrev ts9 : List He.Tab := [(fun K => He.ga K "OTHER", ["#", ".", "*", "o"])]
abbrev tf9 : List He.Defn := [("law", none)]
def ex9 (K : PySem.W.Frag) : Bool := exTab K && errB K
abbrev hk9 : PySem.W.Hook := He.hookX 4 fa fn ts9 tf9 ex9
def ob9 (s : PySem.W.SharedT) : He.AlX := He.obsX 4 fa fn ts9 tf9 ex9 (HandSHeadRun.getT s)
theorem ob9_eq (s : PySem.W.SharedT) : ob9 s = hk9.obs s.abs := He.obsX_eq (HandSHeadRun.getT_eq s)
theorem run9 (w : World) : HandSHeadRun.RunEq R9 (PySem.W.view R9.prog [44]) hk9 ob9 4000 loose w := by
  refine PySem.W.byRow2 "special-get-raises" (P := fun w => HandSHeadRun.RunEq R9 (PySem.W.view R9.prog [44]) hk9 ob9 4000 loose w) ?_ ?_ w
  · intro w os
    kernel_rfl
  · intro w os
    kernel_rfl
theorem md9 {K : PySem.W.Frag} {h : Heap} {mg : Str → Option Value} {w : World} (X : K.In h) (G : h.Ns mainGlobals mg) (c : He.SaysX fa fn ts9 tf9 ex9 w h K) : Md K mg w where
  tab := md_tab X G c.t rfl (List.mem_append.mpr (.inl (List.mem_append.mpr (.inr (show _ ∈ fa1 by unfold fa1; simp))))) (He.ba c.more).1
  er := errF_of (He.ba c.more).2 (He.glo_ok X G (c.t.d.facts (List.mem_append.mpr (.inl (List.mem_append.mpr (.inr (show _ ∈ fa1 by unfold fa1; simp)))))))
  g_InvalidBoard := He.glo_ok X G (c.t.d.facts (List.mem_append.mpr (.inl (List.mem_append.mpr (.inr (show _ ∈ fa1 by unfold fa1; simp))))))
  g_InvalidCell := He.glo_ok X G (c.t.d.facts (List.mem_append.mpr (.inl (List.mem_append.mpr (.inr (show _ ∈ fa1 by unfold fa1; simp))))))
  g_InvalidCells := He.glo_ok X G (c.t.d.facts (List.mem_append.mpr (.inl (List.mem_append.mpr (.inr (show _ ∈ fa1 by unfold fa1; simp))))))
  g_InvalidTicks := He.glo_ok X G (c.t.d.facts (List.mem_append.mpr (.inl (List.mem_append.mpr (.inr (show _ ∈ fa1 by unfold fa1; simp))))))
  g_InvalidText := He.glo_ok X G (c.t.d.facts (List.mem_append.mpr (.inl (List.mem_append.mpr (.inr (show _ ∈ fa1 by unfold fa1; simp))))))
  g_TooLarge := He.glo_ok X G (c.t.d.facts (List.mem_append.mpr (.inl (List.mem_append.mpr (.inr (show _ ∈ fa1 by unfold fa1; simp))))))
  g_Unlike := He.glo_ok X G (c.t.d.facts (List.mem_append.mpr (.inl (List.mem_append.mpr (.inr (show _ ∈ fa1 by unfold fa1; simp))))))
  g_NothingToUndo := He.glo_ok X G (c.t.d.facts (List.mem_append.mpr (.inl (List.mem_append.mpr (.inr (show _ ∈ fa1 by unfold fa1; simp))))))
  m_ValueError := md_free X G c.t.d (List.mem_append.mpr (.inl (List.mem_append.mpr (.inr (show _ ∈ fa1 by unfold fa1; simp)))))
  m_abs := md_free X G c.t.d (List.mem_append.mpr (.inl (List.mem_append.mpr (.inr (show _ ∈ fa1 by unfold fa1; simp)))))
  m_all := md_free X G c.t.d (List.mem_append.mpr (.inl (List.mem_append.mpr (.inr (show _ ∈ fa1 by unfold fa1; simp)))))
  m_bool := md_free X G c.t.d (List.mem_append.mpr (.inl (List.mem_append.mpr (.inr (show _ ∈ fa1 by unfold fa1; simp)))))
  m_enumerate := md_free X G c.t.d (List.mem_append.mpr (.inl (List.mem_append.mpr (.inr (show _ ∈ fa1 by unfold fa1; simp)))))
  m_int := md_free X G c.t.d (List.mem_append.mpr (.inl (List.mem_append.mpr (.inr (show _ ∈ fa1 by unfold fa1; simp)))))
  m_isinstance := md_free X G c.t.d (List.mem_append.mpr (.inl (List.mem_append.mpr (.inr (show _ ∈ fa1 by unfold fa1; simp)))))
  m_len := md_free X G c.t.d (List.mem_append.mpr (.inl (List.mem_append.mpr (.inr (show _ ∈ fa1 by unfold fa1; simp)))))
  m_max := md_free X G c.t.d (List.mem_append.mpr (.inr (show _ ∈ fa2 by unfold fa2; simp)))
  m_min := md_free X G c.t.d (List.mem_append.mpr (.inr (show _ ∈ fa2 by unfold fa2; simp)))
  m_range := md_free X G c.t.d (List.mem_append.mpr (.inr (show _ ∈ fa2 by unfold fa2; simp)))
  m_str := md_free X G c.t.d (List.mem_append.mpr (.inr (show _ ∈ fa2 by unfold fa2; simp)))
  m_sum := md_free X G c.t.d (List.mem_append.mpr (.inr (show _ ∈ fa2 by unfold fa2; simp)))
  m_tuple := md_free X G c.t.d (List.mem_append.mpr (.inr (show _ ∈ fa2 by unfold fa2; simp)))
  x_FrostError := md_exc X G c.t.d (List.mem_append.mpr (.inr (show _ ∈ fa2 by unfold fa2; simp))) (List.mem_append.mpr (.inl (List.mem_append.mpr (.inr (show _ ∈ fa1 by unfold fa1; simp)))))
  x_InvalidBoard := md_exc X G c.t.d (List.mem_append.mpr (.inr (show _ ∈ fa2 by unfold fa2; simp))) (List.mem_append.mpr (.inl (List.mem_append.mpr (.inr (show _ ∈ fa1 by unfold fa1; simp)))))
  x_InvalidCell := md_exc X G c.t.d (List.mem_append.mpr (.inr (show _ ∈ fa2 by unfold fa2; simp))) (List.mem_append.mpr (.inl (List.mem_append.mpr (.inr (show _ ∈ fa1 by unfold fa1; simp)))))
  x_InvalidCells := md_exc X G c.t.d (List.mem_append.mpr (.inr (show _ ∈ fa2 by unfold fa2; simp))) (List.mem_append.mpr (.inl (List.mem_append.mpr (.inr (show _ ∈ fa1 by unfold fa1; simp)))))
  x_InvalidTicks := md_exc X G c.t.d (List.mem_append.mpr (.inr (show _ ∈ fa2 by unfold fa2; simp))) (List.mem_append.mpr (.inl (List.mem_append.mpr (.inr (show _ ∈ fa1 by unfold fa1; simp)))))
  x_InvalidText := md_exc X G c.t.d (List.mem_append.mpr (.inr (show _ ∈ fa2 by unfold fa2; simp))) (List.mem_append.mpr (.inl (List.mem_append.mpr (.inr (show _ ∈ fa1 by unfold fa1; simp)))))
  x_TooLarge := md_exc X G c.t.d (List.mem_append.mpr (.inr (show _ ∈ fa2 by unfold fa2; simp))) (List.mem_append.mpr (.inl (List.mem_append.mpr (.inr (show _ ∈ fa1 by unfold fa1; simp)))))
  x_Unlike := md_exc X G c.t.d (List.mem_append.mpr (.inr (show _ ∈ fa2 by unfold fa2; simp))) (List.mem_append.mpr (.inl (List.mem_append.mpr (.inr (show _ ∈ fa1 by unfold fa1; simp)))))
  x_NothingToUndo := md_exc X G c.t.d (List.mem_append.mpr (.inr (show _ ∈ fa2 by unfold fa2; simp))) (List.mem_append.mpr (.inl (List.mem_append.mpr (.inr (show _ ∈ fa1 by unfold fa1; simp)))))
  f_is_whole := md_fun X G c.t.d (d := d_is_whole) rfl (List.mem_append.mpr (.inl (show _ ∈ fn0 by unfold fn0; simp))) (List.mem_append.mpr (.inl (List.mem_append.mpr (.inl (show _ ∈ fa0 by unfold fa0; simp)))))
  f_is_row := md_fun X G c.t.d (d := d_is_row) rfl (List.mem_append.mpr (.inl (show _ ∈ fn0 by unfold fn0; simp))) (List.mem_append.mpr (.inl (List.mem_append.mpr (.inl (show _ ∈ fa0 by unfold fa0; simp)))))
  f_is_board := md_fun X G c.t.d (d := d_is_board) rfl (List.mem_append.mpr (.inl (show _ ∈ fn0 by unfold fn0; simp))) (List.mem_append.mpr (.inl (List.mem_append.mpr (.inl (show _ ∈ fa0 by unfold fa0; simp)))))
  f_need_board := md_fun X G c.t.d (d := d_need_board) rfl (List.mem_append.mpr (.inl (show _ ∈ fn0 by unfold fn0; simp))) (List.mem_append.mpr (.inl (List.mem_append.mpr (.inl (show _ ∈ fa0 by unfold fa0; simp)))))
  f_ice_at := md_fun X G c.t.d (d := d_ice_at) rfl (List.mem_append.mpr (.inl (show _ ∈ fn0 by unfold fn0; simp))) (List.mem_append.mpr (.inl (List.mem_append.mpr (.inl (show _ ∈ fa0 by unfold fa0; simp)))))
  f_bare := md_fun X G c.t.d (d := d_bare) rfl (List.mem_append.mpr (.inl (show _ ∈ fn0 by unfold fn0; simp))) (List.mem_append.mpr (.inl (List.mem_append.mpr (.inl (show _ ∈ fa0 by unfold fa0; simp)))))
  f_exchanged := md_fun X G c.t.d (d := d_exchanged) rfl (List.mem_append.mpr (.inl (show _ ∈ fn0 by unfold fn0; simp))) (List.mem_append.mpr (.inl (List.mem_append.mpr (.inl (show _ ∈ fa0 by unfold fa0; simp)))))
  f_neighbours := md_fun X G c.t.d (d := d_neighbours) rfl (List.mem_append.mpr (.inl (show _ ∈ fn0 by unfold fn0; simp))) (List.mem_append.mpr (.inl (List.mem_append.mpr (.inl (show _ ∈ fa0 by unfold fa0; simp)))))
  f_next_sign := md_fun X G c.t.d (d := d_next_sign) rfl (List.mem_append.mpr (.inl (show _ ∈ fn0 by unfold fn0; simp))) (List.mem_append.mpr (.inl (List.mem_append.mpr (.inl (show _ ∈ fa0 by unfold fa0; simp)))))
  f_ticked := md_fun X G c.t.d (d := d_ticked) rfl (List.mem_append.mpr (.inl (show _ ∈ fn0 by unfold fn0; simp))) (List.mem_append.mpr (.inl (List.mem_append.mpr (.inl (show _ ∈ fa0 by unfold fa0; simp)))))
  f_need_ticks := md_fun X G c.t.d (d := d_need_ticks) rfl (List.mem_append.mpr (.inl (show _ ∈ fn0 by unfold fn0; simp))) (List.mem_append.mpr (.inl (List.mem_append.mpr (.inl (show _ ∈ fa0 by unfold fa0; simp)))))
  f_later := md_fun X G c.t.d (d := d_later) rfl (List.mem_append.mpr (.inl (show _ ∈ fn0 by unfold fn0; simp))) (List.mem_append.mpr (.inl (List.mem_append.mpr (.inl (show _ ∈ fa0 by unfold fa0; simp)))))
  f_after := md_fun X G c.t.d (d := d_after) rfl (List.mem_append.mpr (.inl (show _ ∈ fn0 by unfold fn0; simp))) (List.mem_append.mpr (.inl (List.mem_append.mpr (.inl (show _ ∈ fa0 by unfold fa0; simp)))))
  f_fate_of := md_fun X G c.t.d (d := d_fate_of) rfl (List.mem_append.mpr (.inl (show _ ∈ fn0 by unfold fn0; simp))) (List.mem_append.mpr (.inl (List.mem_append.mpr (.inl (show _ ∈ fa0 by unfold fa0; simp)))))
  f_need_pair := md_fun X G c.t.d (d := d_need_pair) rfl (List.mem_append.mpr (.inl (show _ ∈ fn0 by unfold fn0; simp))) (List.mem_append.mpr (.inl (List.mem_append.mpr (.inl (show _ ∈ fa0 by unfold fa0; simp)))))
  f_meet := md_fun X G c.t.d (d := d_meet) rfl (List.mem_append.mpr (.inl (show _ ∈ fn0 by unfold fn0; simp))) (List.mem_append.mpr (.inl (List.mem_append.mpr (.inl (show _ ∈ fa0 by unfold fa0; simp)))))
  f__law_cell := md_fun X G c.t.d (d := d__law_cell) rfl (List.mem_append.mpr (.inl (show _ ∈ fn0 by unfold fn0; simp))) (List.mem_append.mpr (.inl (List.mem_append.mpr (.inl (show _ ∈ fa0 by unfold fa0; simp)))))
  f__law_drawn := md_fun X G c.t.d (d := d__law_drawn) rfl (List.mem_append.mpr (.inl (show _ ∈ fn0 by unfold fn0; simp))) (List.mem_append.mpr (.inl (List.mem_append.mpr (.inl (show _ ∈ fa0 by unfold fa0; simp)))))
  f__law_roll := md_fun X G c.t.d (d := d__law_roll) rfl (List.mem_append.mpr (.inl (show _ ∈ fn0 by unfold fn0; simp))) (List.mem_append.mpr (.inl (List.mem_append.mpr (.inl (show _ ∈ fa0 by unfold fa0; simp)))))
  f__law_rounds := md_fun X G c.t.d (d := d__law_rounds) rfl (List.mem_append.mpr (.inl (show _ ∈ fn0 by unfold fn0; simp))) (List.mem_append.mpr (.inl (List.mem_append.mpr (.inl (show _ ∈ fa0 by unfold fa0; simp)))))
  f__law_term := md_fun X G c.t.d (d := d__law_term) rfl (List.mem_append.mpr (.inl (show _ ∈ fn0 by unfold fn0; simp))) (List.mem_append.mpr (.inl (List.mem_append.mpr (.inl (show _ ∈ fa0 by unfold fa0; simp)))))
  f__law_told := md_fun X G c.t.d (d := d__law_told) rfl (List.mem_append.mpr (.inl (show _ ∈ fn0 by unfold fn0; simp))) (List.mem_append.mpr (.inl (List.mem_append.mpr (.inl (show _ ∈ fa0 by unfold fa0; simp)))))
  f__law_any_board := md_fun X G c.t.d (d := d__law_any_board) rfl (List.mem_append.mpr (.inl (show _ ∈ fn0 by unfold fn0; simp))) (List.mem_append.mpr (.inl (List.mem_append.mpr (.inl (show _ ∈ fa0 by unfold fa0; simp)))))
  f__law_free := md_fun X G c.t.d (d := d__law_free) rfl (List.mem_append.mpr (.inl (show _ ∈ fn0 by unfold fn0; simp))) (List.mem_append.mpr (.inl (List.mem_append.mpr (.inl (show _ ∈ fa0 by unfold fa0; simp)))))
  f__law_ice := md_fun X G c.t.d (d := d__law_ice) rfl (List.mem_append.mpr (.inr (show _ ∈ fn1 by unfold fn1; simp))) (List.mem_append.mpr (.inl (List.mem_append.mpr (.inr (show _ ∈ fa1 by unfold fa1; simp)))))
  f__law_near := md_fun X G c.t.d (d := d__law_near) rfl (List.mem_append.mpr (.inr (show _ ∈ fn1 by unfold fn1; simp))) (List.mem_append.mpr (.inl (List.mem_append.mpr (.inr (show _ ∈ fa1 by unfold fa1; simp)))))
  f__law_laid := md_fun X G c.t.d (d := d__law_laid) rfl (List.mem_append.mpr (.inr (show _ ∈ fn1 by unfold fn1; simp))) (List.mem_append.mpr (.inl (List.mem_append.mpr (.inr (show _ ∈ fa1 by unfold fa1; simp)))))
  f__law_ticked := md_fun X G c.t.d (d := d__law_ticked) rfl (List.mem_append.mpr (.inr (show _ ∈ fn1 by unfold fn1; simp))) (List.mem_append.mpr (.inl (List.mem_append.mpr (.inr (show _ ∈ fa1 by unfold fa1; simp)))))
  f__law_some := md_fun X G c.t.d (d := d__law_some) rfl (List.mem_append.mpr (.inr (show _ ∈ fn1 by unfold fn1; simp))) (List.mem_append.mpr (.inl (List.mem_append.mpr (.inr (show _ ∈ fa1 by unfold fa1; simp)))))
theorem fl9 {K : PySem.W.Frag} {h : Heap} {mg : Str → Option Value} {w : World} (X : K.In h) (G : h.Ns mainGlobals mg) (c : He.SaysX fa fn ts9 tf9 ex9 w h K) : ∃ f fd, FunD K "law" "law" (defArgs (top 44)) (defBody (top 44)) (defScope (top 44)) [] [] f fd ∧ mg "law" = some (.ref f) ∧ f = He.fAd K ("law", none) := md_fund X G c.t.d (d := d_law) rfl (List.mem_append.mpr (.inr (show _ ∈ fn1 by unfold fn1; simp))) (List.mem_append.mpr (.inl (List.mem_append.mpr (.inr (show _ ∈ fa1 by unfold fa1; simp)))))
end FB
open PySem PySem.W PySem.Calls PyProof.Rows in
theorem PySem.Challenge.cw_frostboard_k16_whole_meetings_holds : PySem.Challenge.rw_frostboard_k16_whole_meetings.Holds := by
  w_on; o_law
  refine HandSHeadRun.head_any (r := OpenLaw.row PySem.Challenge.rw_frostboard_k16_whole_meetings) (q := view (OpenLaw.row PySem.Challenge.rw_frostboard_k16_whole_meetings).prog [44]) (H := FB.hk9) (ob := FB.ob9) (M := 4000) (loose := FB.loose) (d := HandSHeadRun.topDef (OpenLaw.row PySem.Challenge.rw_frostboard_k16_whole_meetings).prog 44) (kwd := []) FB.ob9_eq
    (by kernel_rfl) (fun s => by kernel_rfl) FB.run9 (by kernel_rfl) (by kernel_rfl) (by kernel_rfl) (by rfl) (by first | assumption | decide +kernel) (by decide +kernel) ⟨rfl, rfl, rfl, rfl, rfl, by decide +kernel⟩ ?hw ?hc
  case hw => w_witness2
  case hc =>
    refine LamX.walk_ofTsE (l := PySem.Challenge.rw_frostboard_k16_whole_meetings) (n := 63) (k := 9) (x := "script") (CX := fun w => L2N.CX (PySem.Challenge.rw_frostboard_k16_whole_meetings).prog w) rfl (by decide) (by kernel_rfl) ⟨rfl, by decide, by decide⟩ ?F (fun w H s e s' z => by
      obtain ⟨_, _, _, _, _, _, _, _, _, _, _, _, z⟩ := z
      exact z)
    intro w mg fa h Y G hmg0
    obtain ⟨K, KX, c⟩ := Y
    have hmg : mg ("law" : PySem.Str) = some (.ref fa) := by
      have e : (HandSHeadRun.topDef (OpenLaw.row PySem.Challenge.rw_frostboard_k16_whole_meetings).prog 44).name = ("law" : PySem.Str) := by kernel_rfl
      rw [← e]
      exact hmg0
    obtain ⟨f, fd, FD, hf, hfa⟩ := FB.fl9 KX G c
    have F := FB.to_fun FD
    have ef : f = fa := by
      rw [hmg] at hf
      cases hf
      rfl
    subst ef
    have M := FB.md9 KX G c
    have b := L2.FunD.bindsA (ps := ["script"]) FD fun _ _ _ _ _ _ us hl => match us, hl with | [_], _ => rfl
    refine ⟨K, KX, fd, [He.cT K ("law", none)], FB.spLaw (FB.tabs9 K) K, (fun p hp => by rw [List.mem_singleton.mp hp]; exact c.empty _ (List.mem_singleton.mpr rfl)), (fun p hp => by rw [List.mem_singleton.mp hp]; exact c.out _ (List.mem_singleton.mpr rfl)), (fun p hp => by rw [List.mem_singleton.mp hp]; exact PySem.W.codeHd_of_K KX (c.hd _ (List.mem_singleton.mpr rfl))), fun s u => b s [u] rfl, fun H a ns hl _ hT hS => ⟨a, ns, rfl, hl, hS, (fun p hp => by rw [List.mem_singleton.mp hp]; exact LamX.TabS.nil (hT _ (List.mem_singleton.mpr rfl))), fun _ => rfl⟩, fun base _ _ TB5 => FB.ok_law M FB.law_plain F hfa (TB5 _ (List.mem_singleton.mpr rfl))⟩
