import PyProof.Rows.All
import Wide.All
import OpenK.AllK
import Wide.FinOn
import Lean
import HandS.ForMost
import HandS.TupAny
import HandS.TupMul
import HandS.Zip
import HandS.Wide
import HandS.IsInst
import HandS.Flow
import HandS.Style
import HandS.SortOrd
import HandS.TupLe
import HandS.Deep
import HandS.SetFor
import HandS.Conv
import HandS.Dict
import PyProof.InstNe
import KE.KRevSl
import KE.GoesMore
import HandS.Defaults
import HandS.WordsDict
import HandS.HeadHook2
import HandS.CallRecv
import HandS.Head0
import HandS.Head1
import HandS.Head2
import HandS.HeadEnd
import HandS.HeadHook1
import HandS.More
import HandS.Words
import HandS.WordsExc
import PySem.Challenge.RW_fortsmet_k12_whole_full_needs_and_covers
/-! FmA: data, the tree of draws, my small syntax, what it computes. -/
set_option Elab.async false
set_option linter.all false
set_option maxRecDepth 100000
set_option maxHeartbeats 0
namespace Fm
open PySem

/-- data -/
inductive D where
  | non | bl (b : Bool) | int (i : Int) | str (s : Str)
  | tup (xs : List D) | lst (xs : List D)
  /-- a list that is a name's own -/
  | cell (xs : List D)
  /-- a Crowd -/
  | crowd (n : Nat) (ties : List (Nat × Nat)) (needs : List Nat)
  /-- where draws come from -/
  | hand
  /-- the script -/
  | scr (ns : List Int)
  /-- what is drawn from -/
  | tape (cells : List Int)
  /-- a dict that holds nothing -/
  | emp
  deriving Inhabited

mutual
def D.toP : D → PyData
  | .non => .none | .bl b => .bool b | .int i => .int i | .str s => .str s
  | .tup xs => .tuple (D.toPs xs) | .lst xs => .list (D.toPs xs) | .cell xs => .list (D.toPs xs)
  | .crowd _ _ _ => .dict [] | .hand => .dict [] | .scr _ => .dict [] | .tape _ => .dict [] | .emp => .dict []
def D.toPs : List D → List PyData
  | [] => []
  | x :: xs => D.toP x :: D.toPs xs
end
theorem toPs_map (xs : List D) : D.toPs xs = xs.map D.toP := by
  induction xs with
  | nil => rfl
  | cons x xs ih => show D.toP x :: D.toPs xs = _; rw [ih]; rfl
theorem toP_tup (xs : List D) : D.toP (.tup xs) = .tuple (xs.map D.toP) := by rw [← toPs_map]; rfl
theorem toP_lst (xs : List D) : D.toP (.lst xs) = .list (xs.map D.toP) := by rw [← toPs_map]; rfl
theorem toP_cell (xs : List D) : D.toP (.cell xs) = .list (xs.map D.toP) := by rw [← toPs_map]; rfl

/-! nothing in it is a list -/
mutual
def D.flat : D → Bool
  | .tup xs => D.flats xs
  | .lst _ => false | .cell _ => false
  | .hand => false | .scr _ => false | .tape _ => false | .emp => false
  | _ => true
def D.flats : List D → Bool
  | [] => true
  | x :: xs => D.flat x && D.flats xs
end
theorem flats_all (xs : List D) : D.flats xs = xs.all D.flat := by
  induction xs with
  | nil => rfl
  | cons x xs ih => show (D.flat x && D.flats xs) = _; rw [ih]; rfl
theorem flat_tup (xs : List D) : D.flat (.tup xs) = xs.all D.flat := flats_all xs

def D.asL : D → Option (List D)
  | .lst xs => some xs | .cell xs => some xs | _ => none
def D.isCell : D → Bool
  | .cell _ => true | _ => false
def D.unc : D → D
  | .cell xs => .lst xs | d => d
/-- the items of a list or tuple -/
def D.its : D → Option (List D)
  | .lst xs => some xs | .cell xs => some xs | .tup xs => some xs | _ => none

/-! ### the tree -/
inductive T (α : Type) where
  | ret (a : α) | bad | draw (n : Nat) (k : Nat → T α)
def T.bind {α β : Type} : T α → (α → T β) → T β
  | .ret a, f => f a
  | .bad, _ => .bad
  | .draw n k, f => .draw n fun i => (k i).bind f
instance : Monad T where
  pure := T.ret
  bind := T.bind
theorem T.bind_ret {α β : Type} (a : α) (f : α → T β) : (T.ret a >>= f) = f a := rfl
theorem T.bind_bad {α β : Type} (f : α → T β) : ((T.bad : T α) >>= f) = T.bad := rfl
theorem T.pure_eq {α : Type} (a : α) : (pure a : T α) = T.ret a := rfl
/-- at every end q holds -/
def T.wp {α : Type} : T α → (α → Prop) → Prop
  | .ret a, q => q a
  | .bad, _ => False
  | .draw n k, q => ∀ i, i < n → (k i).wp q
theorem T.wp_ret {α : Type} {a : α} {q : α → Prop} : (T.ret a).wp q = q a := rfl
theorem T.wp_bind {α β : Type} : ∀ {t : T α} {f : α → T β} {q : β → Prop}, (t >>= f).wp q ↔ t.wp fun a => (f a).wp q
  | .ret a, f, q => Iff.rfl
  | .bad, f, q => Iff.rfl
  | .draw n k, f, q => forall_congr' fun i => forall_congr' fun _ => T.wp_bind (t := k i)
theorem T.wp_imp {α : Type} : ∀ {t : T α} {p q : α → Prop}, t.wp p → (∀ a, p a → q a) → t.wp q
  | .ret a, p, q, h, i => i a h
  | .bad, p, q, h, i => h
  | .draw n k, p, q, h, i => fun j hj => T.wp_imp (h j hj) i
theorem T.bind_assoc {α β γ : Type} : ∀ (t : T α) (f : α → T β) (g : β → T γ), ((t >>= f) >>= g) = (t >>= fun a => f a >>= g)
  | .ret a, f, g => rfl
  | .bad, f, g => rfl
  | .draw n k, f, g => congrArg (T.draw n) (funext fun i => T.bind_assoc (k i) f g)
theorem T.bind_pure {α : Type} : ∀ (t : T α), (t >>= fun a => T.ret a) = t
  | .ret a => rfl
  | .bad => rfl
  | .draw n k => congrArg (T.draw n) (funext fun i => T.bind_pure (k i))

/-! ### the syntax -/
inductive O2 where
  | add | sub | mul | mod | fdiv | pow | eq | ne | lt | le | gt | ge | isin | notin | is_ | isnot
  deriving DecidableEq
/-- built-ins -/
inductive Bi where
  | len | tuple | list | sorted | all | any | min1 | max1 | min2 | max2 | sum | abs | int | tupRange | lstRange
  deriving DecidableEq
/-- what isinstance is asked about -/
inductive Ki where
  | int | bool | tuple | str | list | listtuple | dict
  deriving DecidableEq
/-- a target: one name, or several of a tuple -/
inductive Tg where
  | one (i : Nat) | many (is : List Nat)
  deriving DecidableEq
inductive E where
  | nil | cons (a as : E)
  | var (i : Nat)
  | non | bl (b : Bool) | int (i : Int) | str (s : String)
  | tup (as : E) | lst (as : E)
  | op (o : O2) (a b : E)
  | chain (o1 o2 : O2) (a b c : E)
  | neg (a : E) | nt (a : E) | and (a b : E) | or (a b : E)
  | ite (c a b : E)
  | call (f : String) (as : E)
  | blt (f : Bi) (as : E)
  | isi (a : E) (k : Ki)
  | attr (a : E) (f : String)
  | ix (a i : E)
  | sl (a lo hi : E)
  /-- x[::-1] -/
  | rev (a : E)
  | lc (tg : Tg) (own : List Nat) (it test elt : E)
  /-- iterators: range(a), range(a, b), zip(a, b), enumerate(a) -/
  | rng1 (a : E) | rng2 (a b : E) | zip (a b : E) | enum (a : E)
  /-- a module's constant int -/
  | gint (x : String) (i : Int)
  /-- {} -/
  | emp
  /-- == (!= where n) of two crowds -/
  | ceq (n : Bool) (a b : E)
inductive S where
  | nil | cons (s ss : S)
  | ret (e : E)
  | set (tg : Tg) (e : E)
  | par (is : List Nat) (es : E)
  | expr (e : E)
  | ite (c : E) (a b : S)
  | for_ (tg : Tg) (it : E) (b : S)
  | while_ (c : E) (b : S)
  | app (i : Nat) (e : E)
  | ext (i : Nat) (e : E)
  | seti (i : Nat) (ix e : E)
  | popset (j i : Nat)
  /-- i = e, a list is not the name's own -/
  | setl (i : Nat) (e : E)
  /-- i.append(j.pop(e)) -/
  | apop (i j : Nat) (e : E)
  | brk | pass | never

/-! ### what it computes -/
abbrev Env := List (Option D)
def getv (env : Env) (i : Nat) : T D := match env[i]? with
  | some (some d) => .ret d
  | _ => .bad
def asB : D → T Bool
  | .bl b => .ret b
  | _ => .bad
/-- no list of a name's own -/
def chkC : D → T D
  | .cell _ => .bad
  | d => .ret d
def maxL : Nat := 1000000
def mkTup (xs : List D) : T D := if xs.any D.isCell || decide (1000 < xs.length) then .bad else .ret (.tup xs)
def mkLst (xs : List D) : T D := if xs.any D.isCell || decide (1000 < xs.length) then .bad else .ret (.lst xs)
def small (i : Int) : Bool := decide (-(2 ^ 62) ≤ i) && decide (i < 2 ^ 62)
/-- items are ints -/
def ints? : List D → Option (List Int)
  | [] => some []
  | .int i :: r => (ints? r).map (i :: ·)
  | _ => none
def bools? : List D → Option (List Bool)
  | [] => some []
  | .bl i :: r => (bools? r).map (i :: ·)
  | _ => none
/-- order: ints; tuples from the left -/
def lexI : List Int → List Int → Bool
  | _, [] => false
  | [], _ :: _ => true
  | x :: xs, y :: ys => if x = y then lexI xs ys else decide (x < y)
def ltD : D → D → T D
  | .int a, .int b => .ret (.bl (decide (a < b)))
  | .tup xs, .tup ys => match ints? xs, ints? ys with
    | some ns, some ms => .ret (.bl (lexI ns ms))
    | _, _ => .bad
  | _, _ => .bad
def eqD (a b : D) : T Bool := if SeqAt.shaped a.toP && SeqAt.shaped b.toP then .ret (PyData.eqv a.toP b.toP) else .bad
def inD (a : D) (xs : List D) : T Bool := if SeqAt.shaped a.toP && SeqAt.shaped (.list (xs.map D.toP)) then .ret (xs.any fun z => PyData.eqv z.toP a.toP) else .bad
def addD : D → D → T D
  | .int a, .int b => .ret (.int (a + b))
  | .tup xs, .tup ys => if xs.length + ys.length ≤ maxL then .ret (.tup (xs ++ ys)) else .bad
  | .str a, .str b => if a.length + b.length ≤ maxL then .ret (.str (a ++ b)) else .bad
  | a, b => match a.asL, b.asL with
    | some xs, some ys => if xs.length + ys.length ≤ maxL then .ret (.lst (xs ++ ys)) else .bad
    | _, _ => .bad
def mulD : D → D → T D
  | .int a, .int b => if (decide (-(2 ^ 64) < a) && decide (a < 2 ^ 64)) || (decide (-(2 ^ 64) < b) && decide (b < 2 ^ 64)) then .ret (.int (a * b)) else .bad
  | a, .int k => match a.asL with
    | some xs => if decide (-(2 ^ 63) ≤ k) && decide (k < 2 ^ 63) && decide (xs.length * k.toNat ≤ maxL) then .ret (.lst (List.replicate k.toNat xs).flatten) else .bad
    | none => .bad
  | _, _ => .bad
def isNon : D → Bool
  | .non => true
  | _ => false
def op2 : O2 → D → D → T D
  | .add, a, b => addD a b
  | .sub, .int a, .int b => .ret (.int (a - b))
  | .mul, a, b => mulD a b
  | .mod, .int a, .int b => if 0 < b then .ret (.int (a % b)) else .bad
  | .fdiv, .int a, .int b => if 0 < b ∧ b < 1073741824 then .ret (.int (a / b)) else .bad
  | .pow, .int a, .int b => if 0 ≤ b ∧ b ≤ 1000 ∧ a.natAbs < 2 ^ 64 then .ret (.int (a ^ b.toNat)) else .bad
  | .eq, a, b => do let c ← eqD a b; .ret (.bl c)
  | .ne, a, b => do let c ← eqD a b; .ret (.bl (!c))
  | .lt, a, b => ltD a b
  | .gt, .int a, .int b => .ret (.bl (decide (b < a)))
  | .le, .int a, .int b => .ret (.bl (decide (a ≤ b)))
  | .ge, .int a, .int b => .ret (.bl (decide (b ≤ a)))
  | .isin, a, b => match b.its with
    | some xs => do let c ← inD a xs; .ret (.bl c)
    | none => .bad
  | .notin, a, b => match b.its with
    | some xs => do let c ← inD a xs; .ret (.bl (!c))
    | none => .bad
  | .is_, a, .non => .ret (.bl (isNon a))
  | .isnot, a, .non => .ret (.bl (!isNon a))
  | .is_, .bl a, .bl b => .ret (.bl (decide (a = b)))
  | .isnot, .bl a, .bl b => .ret (.bl (!decide (a = b)))
  | _, _, _ => .bad
/-! the order of what may be sorted: ints, tuples of such -/
def D.rank : D → Nat
  | .int _ => 0 | .tup _ => 1 | _ => 2
mutual
def D.cmp : D → D → Ordering
  | .int a, .int b => compare a b
  | .tup xs, .tup ys => D.cmps xs ys
  | a, b => compare a.rank b.rank
def D.cmps : List D → List D → Ordering
  | [], [] => .eq
  | [], _ :: _ => .lt
  | _ :: _, [] => .gt
  | x :: xs, y :: ys => (D.cmp x y).then (D.cmps xs ys)
end
def D.le (a b : D) : Bool := D.cmp a b != .gt
/-- ints, tuples of such, no deeper than n -/
def D.keyd : Nat → D → Bool
  | 0, _ => false
  | _ + 1, .int _ => true
  | n + 1, .tup xs => xs.all (D.keyd n)
  | _, _ => false
/-- of a kind, place by place -/
def D.cpb : Nat → D → D → Bool
  | 0, _, _ => false
  | _ + 1, .int _, .int _ => true
  | n + 1, .tup xs, .tup ys => (xs.zip ys).all fun p => D.cpb n p.1 p.2
  | _, _, _ => false
def insD (x : D) : List D → List D
  | [] => [x]
  | y :: r => if D.le x y then x :: y :: r else y :: insD x r
def sortD : List D → List D
  | [] => []
  | x :: r => insD x (sortD r)
def canSort (xs : List D) : Bool := xs.all (D.keyd 8) && xs.all fun x => xs.all fun y => D.cpb 8 x y
def bltin : Bi → List D → T D
  | .len, [.str s] => if s.length ≤ maxL then .ret (.int s.length) else .bad
  | .len, [.tape cs] => .ret (.int cs.length)
  | .len, [d] => match d.its with
    | some xs => .ret (.int xs.length)
    | none => .bad
  | .tuple, [d] => match d.its with
    | some xs => .ret (.tup xs)
    | none => .bad
  | .list, [d] => match d.its with
    | some xs => .ret (.lst xs)
    | none => .bad
  | .sorted, [d] => match d.its with
    | some xs => if canSort xs && decide (xs.length ≤ maxL) then .ret (.lst (sortD xs)) else .bad
    | none => .bad
  | .all, [d] => match d.asL.bind bools? with
    | some bs => .ret (.bl (bs.all id))
    | none => .bad
  | .any, [d] => match d.asL.bind bools? with
    | some bs => .ret (.bl (bs.any id))
    | none => .bad
  | .sum, [d] => match d.asL.bind ints? with
    | some ns => .ret (.int ns.sum)
    | none => .bad
  | .min1, [d] => match d.asL.bind ints? with
    | some (n :: ns) => .ret (.int (ns.foldl min n))
    | _ => .bad
  | .max1, [d] => match d.asL.bind ints? with
    | some (n :: ns) => .ret (.int (ns.foldl max n))
    | _ => .bad
  | .min2, [.int a, .int b] => .ret (.int (if b < a then b else a))
  | .max2, [.int a, .int b] => .ret (.int (if b > a then b else a))
  | .abs, [.int a] => .ret (.int (if a < 0 then -a else a))
  | .int, [.int a] => .ret (.int a)
  | .int, [.bl b] => .ret (.int (if b then 1 else 0))
  | .tupRange, [.int n] => if (n ≤ maxL) ∧ small n = true then .ret (.tup ((List.range n.toNat).map fun k => .int (k : Nat))) else .bad
  | .lstRange, [.int n] => if (n ≤ maxL) ∧ small n = true then .ret (.lst ((List.range n.toNat).map fun k => .int (k : Nat))) else .bad
  | _, _ => .bad
def isiD : Ki → D → T D
  | _, .crowd _ _ _ => .bad
  | _, .hand => .bad
  | _, .scr _ => .bad
  | _, .tape _ => .bad
  | .dict, .emp => .ret (.bl true)
  | .int, .int _ => .ret (.bl true) | .int, .bl _ => .ret (.bl true)
  | .bool, .bl _ => .ret (.bl true)
  | .tuple, .tup _ => .ret (.bl true)
  | .str, .str _ => .ret (.bl true)
  | .list, .lst _ => .ret (.bl true) | .list, .cell _ => .ret (.bl true)
  | .listtuple, .tup _ => .ret (.bl true) | .listtuple, .lst _ => .ret (.bl true) | .listtuple, .cell _ => .ret (.bl true)
  | _, _ => .ret (.bl false)
def attrD : D → String → T D
  | .crowd n ts ns, f => if f = "persons" then .ret (.int n) else if f = "ties" then .ret (.tup (ts.map fun t => .tup [.int t.1, .int t.2]))
      else if f = "needs" then .ret (.tup (ns.map fun k => .int (k : Nat))) else .bad
  | _, _ => .bad
def ixD : D → D → T D
  | .tape cs, .int i => match L2.atI cs i with
    | some x => .ret (.int x)
    | none => .bad
  | d, .int i => match d.its with
    | some xs => match L2.atI xs i with
      | some x => .ret x
      | none => .bad
    | none => .bad
  | _, _ => .bad
def boundD : D → T (Option Int)
  | .int i => if small i then .ret (some i) else .bad
  | _ => .bad
def cutD (xs : List D) (lo hi : Option Int) : List D := (xs.drop (HT.sIx xs.length 0 lo)).take (HT.sIx xs.length xs.length hi - HT.sIx xs.length 0 lo)
def slD : D → Option Int → Option Int → T D
  | .tup xs, lo, hi => .ret (.tup (cutD xs lo hi))
  | .scr ns, lo, hi => .ret (.lst (cutD (ns.map .int) lo hi))
  | d, lo, hi => match d.asL with
    | some xs => .ret (.lst (cutD xs lo hi))
    | none => .bad
def revD : D → T D
  | .tup xs => .ret (.tup xs.reverse)
  | d => match d.asL with
    | some xs => .ret (.lst xs.reverse)
    | none => .bad
def zipD : D → D → T (List D)
  | .tup xs, .tup ys => .ret ((xs.zip ys).map fun p => .tup [p.1, p.2])
  | a, b => match a.asL, b.asL with
    | some xs, some ys => .ret ((xs.zip ys).map fun p => .tup [p.1, p.2])
    | _, _ => .bad
def enumD (d : D) : T (List D) := match d.its with
  | some xs => .ret ((List.range xs.length).zipWith (fun k x => .tup [.int (k : Nat), x]) xs)
  | none => .bad
def rngD (a b : Int) : T (List D) := if small a && small b && decide ((b - a).toNat ≤ maxL) then .ret ((List.range (b - a).toNat).map fun k => .int (a + (k : Nat))) else .bad
def rng1D : D → T D
  | .int n => do let r ← rngD 0 n; .ret (.lst r)
  | _ => .bad
def rng2D : D → D → T D
  | .int m, .int n => do let r ← rngD m n; .ret (.lst r)
  | _, _ => .bad
def ceqD (n : Bool) : D → D → T D
  | .crowd a b c, .crowd a2 b2 c2 => .ret (.bl (if a = a2 ∧ b = b2 ∧ c = c2 then !n else n))
  | _, _ => .bad
def itsT (d : D) : T (List D) := match d.its with
  | some xs => .ret xs
  | none => .bad
def wipeE (env : Env) : List Nat → Env
  | [] => env
  | v :: vs => (wipeE env vs).set v none
def setAll : List Nat → List D → Env → T Env
  | [], [], env => .ret env
  | i :: is, d :: ds, env => setAll is ds (env.set i (some d))
  | _, _, _ => .bad
def bindTg : Tg → D → Env → T Env
  | .one i, d, env => .ret (env.set i (some d))
  | .many is, .tup xs, env => setAll is xs env
  | _, _, _ => .bad
/-- a comprehension's going -/
def lcT (step : D → T (Option D)) : List D → T (List D)
  | [] => .ret []
  | x :: r => do
    let o ← step x
    let rest ← lcT step r
    .ret (match o with | some y => y :: rest | none => rest)
def E.fresh : E → Bool
  | .lst _ => true
  | .lc _ _ _ _ _ => true
  | .blt .list _ => true
  | .blt .sorted _ => true
  | .blt .lstRange _ => true
  | .op .add _ _ => true
  | .op .mul _ _ => true
  | .sl _ _ _ => true
  | .rev _ => true
  | _ => false
/-- a list just made becomes the name's own -/
def own (e : E) (d : D) : T D := if e.fresh then (match d with | .lst xs => .ret (.cell xs) | d => chkC d) else chkC d
/-- a list just made, or a name's own, is told as new -/
def retT (e : E) (d : D) : T D := if e.fresh then (match d with | .lst xs => .ret (.cell xs) | d => chkC d) else .ret d
/-- what a call tells: a new list, or what is not the caller's own -/
def resT (c : Bool) : D → T D
  | .cell xs => if c && !(xs.all D.flat) then .bad else .ret (.lst xs)
  | r => if c && !r.flat then .bad else .ret r
def isNil : E → Bool
  | .nil => true
  | _ => false
abbrev Fns := String → List D → T D
mutual
def ev (F : Fns) : E → Env → T D
  | .var i, env => getv env i
  | .non, _ => .ret .non
  | .bl b, _ => .ret (.bl b)
  | .int i, _ => .ret (.int i)
  | .str s, _ => .ret (.str (Str.ofString s))
  | .tup as, env => do let ds ← evs F as env; mkTup ds
  | .lst as, env => do let ds ← evs F as env; mkLst ds
  | .op o a b, env => do let x ← ev F a env; let y ← ev F b env; op2 o x y
  | .chain o1 o2 a b c, env => do
    let x ← ev F a env; let y ← ev F b env
    let z ← op2 o1 x y; let k ← asB z
    if k then (do let w ← ev F c env; op2 o2 y w) else .ret (.bl false)
  | .neg a, env => do let x ← ev F a env; (match x with | .int i => .ret (.int (-i)) | _ => .bad)
  | .nt a, env => do let x ← ev F a env; let b ← asB x; .ret (.bl (!b))
  | .and a b, env => do let x ← ev F a env; let k ← asB x; if k then ev F b env else .ret (.bl false)
  | .or a b, env => do let x ← ev F a env; let k ← asB x; if k then .ret (.bl true) else ev F b env
  | .ite c a b, env => do let x ← ev F c env; let k ← asB x; if k then ev F a env else ev F b env
  | .call f as, env => do
    let ds ← evs F as env
    let r ← F f (ds.map D.unc)
    resT (ds.any D.isCell) r
  | .blt f as, env => do let ds ← evs F as env; bltin f ds
  | .isi a k, env => do let x ← ev F a env; isiD k x
  | .attr a f, env => do let x ← ev F a env; attrD x f
  | .ix a i, env => do let x ← ev F a env; let y ← ev F i env; ixD x y
  | .sl a lo hi, env => do
    let x ← ev F a env
    let l ← (if isNil lo then .ret none else do let y ← ev F lo env; boundD y)
    let h ← (if isNil hi then .ret none else do let y ← ev F hi env; boundD y)
    slD x l h
  | .rev a, env => do let x ← ev F a env; revD x
  | .lc tg own it test elt, env => do
    let x ← ev F it env
    let xs ← itsT x
    let ys ← lcT (fun x => do
      let env1 ← bindTg tg x (wipeE env own)
      let k ← (if isNil test then .ret true else do let b ← ev F test env1; asB b)
      if k then (do let y ← ev F elt env1; let y ← chkC y; .ret (some y)) else .ret none) xs
    .ret (.lst ys)
  | .gint _ i, _ => .ret (.int i)
  | .emp, _ => .ret .emp
  | .ceq n a b, env => do let x ← ev F a env; let y ← ev F b env; ceqD n x y
  | .rng1 a, env => do let x ← ev F a env; rng1D x
  | .rng2 a b, env => do let x ← ev F a env; let y ← ev F b env; rng2D x y
  | .zip a b, env => do let x ← ev F a env; let y ← ev F b env; let r ← zipD x y; .ret (.lst r)
  | .enum a, env => do let x ← ev F a env; let r ← enumD x; .ret (.lst r)
  | _, _ => .bad
def evs (F : Fns) : E → Env → T (List D)
  | .nil, _ => .ret []
  | .cons a as, env => do let x ← ev F a env; let xs ← evs F as env; .ret (x :: xs)
  | _, _ => .bad
end
/-! ### statements -/
inductive R where
  | nx (env : Env) | rt (d : D) (env : Env) | bk (env : Env)
def forT (body : Env → T R) (tg : Tg) : List D → Env → T R
  | [], env => .ret (.nx env)
  | x :: r, env => do
    let env1 ← bindTg tg x env
    let o ← body env1
    match o with
    | .nx env2 => forT body tg r env2
    | .bk env2 => .ret (.nx env2)
    | .rt d e => .ret (.rt d e)
def whileT (c : Env → T Bool) (body : Env → T R) : Nat → Env → T R
  | 0, _ => .bad
  | n + 1, env => do
    let k ← c env
    if k then (do
      let o ← body env
      match o with
      | .nx env2 => whileT c body n env2
      | .bk env2 => .ret (.nx env2)
      | .rt d e => .ret (.rt d e)) else .ret (.nx env)
def fuel : Nat := 4000
def Tg.is : Tg → List Nat
  | .one i => [i]
  | .many is => is
def dbl : List Nat → List Nat
  | [] => []
  | i :: is => (2 * i) :: (2 * i + 1) :: dbl is
/-- the names whose own lists are changed (2 i), those that are stored to (2 i and 2 i + 1) -/
def S.touch : S → List Nat
  | .nil => []
  | .cons s ss => s.touch ++ ss.touch
  | .set tg _ => dbl tg.is
  | .par is _ => dbl is
  | .ite _ a b => a.touch ++ b.touch
  | .for_ tg _ b => dbl tg.is ++ b.touch
  | .while_ _ b => b.touch
  | .app i _ => [2 * i]
  | .ext i _ => [2 * i]
  | .seti i _ _ => [2 * i]
  | .popset j i => [2 * j, 2 * j + 1, 2 * i]
  | .apop i j _ => [2 * i, 2 * j]
  | .setl i _ => dbl [i]
  | _ => []
/-- the names whose own lists may be what is walked -/
def walkeds : E → List Nat
  | .var i => [i]
  | .ite _ a b => walkeds a ++ walkeds b
  | .and _ b => walkeds b
  | .or _ b => walkeds b
  | .zip a b => walkeds a ++ walkeds b
  | .enum a => walkeds a
  | _ => []
def cellAt (env : Env) (i : Nat) : Bool := match env[i]? with
  | some (some (.cell _)) => true
  | _ => false
def mayWalk (env : Env) (it : E) (ts : List Nat) : Bool := (walkeds it).all fun i => !(cellAt env i) || (!(ts.contains (2 * i)) && !(ts.contains (2 * i + 1)))
def setAllO : List Nat → List D → Env → Env
  | i :: is, d :: ds, env => setAllO is ds (env.set i (some d))
  | _, _, env => env
/-- several at once, each a name's own where just made -/
def evo (F : Fns) : E → Env → T (List D)
  | .nil, _ => .ret []
  | .cons e es, env => do let d ← ev F e env; let x ← own e d; let r ← evo F es env; .ret (x :: r)
  | _, _ => .bad
def exec (F : Fns) : S → Env → T R
  | .nil, env => .ret (.nx env)
  | .cons s ss, env => do
    let o ← exec F s env
    match o with
    | .nx env2 => exec F ss env2
    | .bk env2 => .ret (.bk env2)
    | .rt d e => .ret (.rt d e)
  | .ret e, env => do let d ← ev F e env; let d ← retT e d; .ret (.rt d env)
  | .set (.one i) e, env => do let d ← ev F e env; let d ← own e d; .ret (.nx (env.set i (some d)))
  | .set (.many is) e, env => do let d ← ev F e env; let env2 ← bindTg (.many is) d env; .ret (.nx env2)
  | .par is es, env => do
    let ds ← evo F es env
    .ret (.nx (setAllO is ds env))
  | .expr e, env => do let _ ← ev F e env; .ret (.nx env)
  | .ite c a b, env => do let x ← ev F c env; let k ← asB x; if k then exec F a env else exec F b env
  | .for_ tg it b, env => do
    let x ← ev F it env
    let xs ← itsT x
    if mayWalk env it (dbl tg.is ++ b.touch) then forT (fun env => exec F b env) tg xs env else .bad
  | .while_ c b, env => whileT (fun env => do let x ← ev F c env; asB x) (fun env => exec F b env) fuel env
  | .app i e, env => (match env[i]? with
    | some (some (.cell xs)) => do
      let d ← ev F e env
      let d ← chkC d
      if xs.length < maxL then .ret (.nx (env.set i (some (.cell (xs ++ [d]))))) else .bad
    | _ => .bad)
  | .ext i e, env => (match env[i]? with
    | some (some (.cell xs)) => do
      let d ← ev F e env
      match d.asL with
      | some ys => if xs.length + ys.length ≤ maxL then .ret (.nx (env.set i (some (.cell (xs ++ ys))))) else .bad
      | none => .bad
    | _ => .bad)
  | .seti i j e, env => do
    let d ← ev F e env
    let d ← chkC d
    (match env[i]? with
    | some (some (.cell xs)) => do
      let x ← ev F j env
      match x with
      | .int n => (match L2.ixN xs.length n with
        | some m => .ret (.nx (env.set i (some (.cell (xs.set m d)))))
        | none => .bad)
      | _ => .bad
    | _ => .bad)
  | .setl i e, env => do let d ← ev F e env; let d ← chkC d; .ret (.nx (env.set i (some d)))
  | .apop i j e, env => (match env[i]? with
    | some (some (.cell xs)) => (match env[j]? with
      | some (some (.cell ys)) => do
        let x ← ev F e env
        (match x with
        | .int n => (match (if 0 ≤ n ∧ i ≠ j then ys[n.toNat]? else none) with
          | some y => if xs.length < maxL ∧ n < 2 ^ 62 then .ret (.nx ((env.set j (some (.cell (ys.eraseIdx n.toNat)))).set i (some (.cell (xs ++ [y]))))) else .bad
          | none => .bad)
        | _ => .bad)
      | _ => .bad)
    | _ => .bad)
  | .brk, env => .ret (.bk env)
  | .pass, env => .ret (.nx env)
  | _, _ => .bad
end Fm

/-! FmB: how data lies in the abstract heap; what goes on keeping it. -/
namespace Fm
open PySem PySem.Spec PyProof.Rows L2

/-- hidden places: a crowd's dict of what was looked at; the list where draws come from -/
inductive GK where
  | looked (n : Nat) (ties : List (Nat × Nat)) (needs : List Nat)
  | tape (cells : List Int)
  | hand
abbrev Gh := Addr → Option GK
def tiesD (ts : List (Nat × Nat)) : D := .tup (ts.map fun t => .tup [.int t.1, .int t.2])
def needsD (ns : List Nat) : D := .tup (ns.map fun k => .int (k : Nat))
def crowdF (n : Nat) (t u l : Addr) : List (Str × V) := [("persons", .int n), ("ties", .ref t), ("needs", .ref u), ("looked", .ref l)]
/-- what is fixed: the written part, the class Crowd, what the caches hold -/
structure Wd where
  K : PySem.W.Frag
  C : Addr
  cache : Nat → List (Nat × Nat) → List Nat → Str → Option D

/-- the script's list: one of the module's, or a tracked one -/
def ScrAt (W : Wd) (Z : Addr → Prop) (G : Gh) (H : Hp) (a : Addr) (ns : List Int) : Prop := (∀ H', SqL W.K H' a (ns.map V.int)) ∨ (SqL W.K H a (ns.map V.int) ∧ G a = none ∧ ¬ Z a ∧ (H a).isSome = true)
mutual
inductive Rel (W : Wd) (Z : Addr → Prop) (G : Gh) (H : Hp) : V → D → Prop
  | non : Rel W Z G H .non .non
  | bl (b : Bool) : Rel W Z G H (.bl b) (.bl b)
  | int (i : Int) : Rel W Z G H (.int i) (.int i)
  | str (s : Str) : Rel W Z G H (.str s) (.str s)
  | tup {a : Addr} {xs : List V} {ds : List D} : H a = some (.tup xs) → G a = none → RelL W Z G H xs ds → Rel W Z G H (.ref a) (.tup ds)
  | lst {a : Addr} {xs : List V} {ds : List D} : H a = some (.lst xs) → G a = none → ¬ Z a → RelL W Z G H xs ds → Rel W Z G H (.ref a) (.lst ds)
  | crowd {a dx t u l : Addr} {n : Nat} {ts : List (Nat × Nat)} {ns : List Nat} : H a = some (.ins W.C dx (crowdF n t u l)) → G a = none → G l = some (.looked n ts ns) →
      Rel W Z G H (.ref t) (tiesD ts) → Rel W Z G H (.ref u) (needsD ns) → Rel W Z G H (.ref a) (.crowd n ts ns)
  | hand {a : Addr} : G a = some .hand → Rel W Z G H (.ref a) .hand
  | tape {a : Addr} {cs : List Int} : G a = some (.tape cs) → Rel W Z G H (.ref a) (.tape cs)
  | emp {a : Addr} : H a = some (.dK []) → G a = none → Rel W Z G H (.ref a) .emp
  | scr {a : Addr} {ns : List Int} : ScrAt W Z G H a ns → ns.length ≤ 63 → Rel W Z G H (.ref a) (.scr ns)
inductive RelL (W : Wd) (Z : Addr → Prop) (G : Gh) (H : Hp) : List V → List D → Prop
  | nil : RelL W Z G H [] []
  | cons {v : V} {vs : List V} {d : D} {ds : List D} : Rel W Z G H v d → RelL W Z G H vs ds → RelL W Z G H (v :: vs) (d :: ds)
end

/-- what stays -/
structure Ext (G : Gh) (H : Hp) (G' : Gh) (H' : Hp) : Prop where
  gh : ∀ p k, G p = some k → G' p = some k
  ob : ∀ p o, H p = some o → G p = none → H' p = some o ∧ G' p = none
theorem Ext.refl (G : Gh) (H : Hp) : Ext G H G H := ⟨fun _ _ h => h, fun _ _ h g => ⟨h, g⟩⟩
theorem Ext.trans {G G1 G2 : Gh} {H H1 H2 : Hp} (a : Ext G H G1 H1) (b : Ext G1 H1 G2 H2) : Ext G H G2 H2 :=
  ⟨fun p k h => b.gh p k (a.gh p k h), fun p o h g => let ⟨h1, g1⟩ := a.ob p o h g; b.ob p o h1 g1⟩
theorem Ext.new {G : Gh} {H : Hp} {p : Addr} {o : HO} (h : H p = none) : Ext G H G (upd H p o) :=
  ⟨fun _ _ h => h, fun q o' e g => ⟨by rw [upd_ne (ne_of_none e h)]; exact e, g⟩⟩

section
variable {W : Wd} {Z Z' : Addr → Prop} {G G' : Gh} {H H' : Hp}
theorem SqL.ext {K : PySem.W.Frag} {a : Addr} {xs : List V} (e : Ext G H G' H') (g : G a = none) (h : SqL K H a xs) : SqL K H' a xs := by
  rcases h with (h | ⟨o, h⟩) | h
  · exact .inl (.inl (e.ob _ _ h g).1)
  · exact .inl (.inr ⟨o, (e.ob _ _ h g).1⟩)
  · exact .inr h
theorem ScrAt.ext {a : Addr} {ns : List Int} (e : Ext G H G' H') (h : ScrAt W Z G H a ns) : ScrAt W Z G' H' a ns := by
  rcases h with h | ⟨s, g, n, hs⟩
  · exact .inl h
  · obtain ⟨o, ho⟩ := Option.isSome_iff_exists.mp hs
    exact .inr ⟨SqL.ext e g s, (e.ob _ _ ho g).2, n, by rw [(e.ob _ _ ho g).1]; rfl⟩
mutual
theorem Rel.ext (e : Ext G H G' H') : ∀ {v : V} {d : D}, Rel W Z G H v d → Rel W Z G' H' v d
  | _, _, .non => .non
  | _, _, .bl b => .bl b
  | _, _, .int i => .int i
  | _, _, .str s => .str s
  | _, _, .tup h g r => .tup (e.ob _ _ h g).1 (e.ob _ _ h g).2 (RelL.ext e r)
  | _, _, .lst h g z r => .lst (e.ob _ _ h g).1 (e.ob _ _ h g).2 z (RelL.ext e r)
  | _, _, .crowd h g l r1 r2 => .crowd (e.ob _ _ h g).1 (e.ob _ _ h g).2 (e.gh _ _ l) (Rel.ext e r1) (Rel.ext e r2)
  | _, _, .hand g => .hand (e.gh _ _ g)
  | _, _, .tape g => .tape (e.gh _ _ g)
  | _, _, .emp h g => .emp (e.ob _ _ h g).1 (e.ob _ _ h g).2
  | _, _, .scr s l => .scr (s.ext e) l
theorem RelL.ext (e : Ext G H G' H') : ∀ {vs : List V} {ds : List D}, RelL W Z G H vs ds → RelL W Z G' H' vs ds
  | _, _, .nil => .nil
  | _, _, .cons r t => .cons (Rel.ext e r) (RelL.ext e t)
end
/-- what stays behind a statement: the names' own lists may change, new ones come -/
structure Evo (Z : Addr → Prop) (G : Gh) (H : Hp) (Z' : Addr → Prop) (G' : Gh) (H' : Hp) : Prop where
  gh : ∀ p k, G p = some k → G' p = some k
  ob : ∀ p o, H p = some o → G p = none → ¬ Z p → H' p = some o ∧ G' p = none ∧ ¬ Z' p
theorem Evo.refl (Z : Addr → Prop) (G : Gh) (H : Hp) : Evo Z G H Z G H := ⟨fun _ _ h => h, fun _ _ h g z => ⟨h, g, z⟩⟩
theorem Evo.trans {Z1 Z2 : Addr → Prop} {G1 G2 : Gh} {H1 H2 : Hp} (a : Evo Z G H Z1 G1 H1) (b : Evo Z1 G1 H1 Z2 G2 H2) : Evo Z G H Z2 G2 H2 :=
  ⟨fun p k h => b.gh p k (a.gh p k h), fun p o h g z => let ⟨h1, g1, z1⟩ := a.ob p o h g z; b.ob p o h1 g1 z1⟩
theorem Ext.evo (e : Ext G H G' H') : Evo Z G H Z G' H' := ⟨e.gh, fun p o h g z => ⟨(e.ob p o h g).1, (e.ob p o h g).2, z⟩⟩
theorem ScrAt.evo {a : Addr} {ns : List Int} (e : Evo Z G H Z' G' H') (h : ScrAt W Z G H a ns) : ScrAt W Z' G' H' a ns := by
  rcases h with h | ⟨s, g, n, hs⟩
  · exact .inl h
  · obtain ⟨o, ho⟩ := Option.isSome_iff_exists.mp hs
    obtain ⟨h1, g1, z1⟩ := e.ob _ _ ho g n
    refine .inr ⟨?_, g1, z1, by rw [h1]; rfl⟩
    rcases s with (h | ⟨o', h⟩) | h
    · exact .inl (.inl (e.ob _ _ h g n).1)
    · exact .inl (.inr ⟨o', (e.ob _ _ h g n).1⟩)
    · exact .inr h
mutual
theorem Rel.evo (zl : ∀ p, Z p → ∃ xs, H p = some (.lst xs)) (e : Evo Z G H Z' G' H') : ∀ {v : V} {d : D}, Rel W Z G H v d → Rel W Z' G' H' v d
  | _, _, .non => .non
  | _, _, .bl b => .bl b
  | _, _, .int i => .int i
  | _, _, .str s => .str s
  | _, _, .tup h g r => by
    have z := e.ob _ _ h g fun z => by
      obtain ⟨xs, q⟩ := zl _ z
      rw [h] at q
      cases q
    exact .tup z.1 z.2.1 (RelL.evo zl e r)
  | _, _, .lst h g z r => .lst (e.ob _ _ h g z).1 (e.ob _ _ h g z).2.1 (e.ob _ _ h g z).2.2 (RelL.evo zl e r)
  | _, _, .crowd h g l r1 r2 => by
    have z := e.ob _ _ h g fun z => by
      obtain ⟨xs, q⟩ := zl _ z
      rw [h] at q
      cases q
    exact .crowd z.1 z.2.1 (e.gh _ _ l) (Rel.evo zl e r1) (Rel.evo zl e r2)
  | _, _, .hand g => .hand (e.gh _ _ g)
  | _, _, .tape g => .tape (e.gh _ _ g)
  | _, _, .emp h g => by
    have z := e.ob _ _ h g fun z => by
      obtain ⟨xs, q⟩ := zl _ z
      rw [h] at q
      cases q
    exact .emp z.1 z.2.1
  | _, _, .scr s l => .scr (s.evo e) l
theorem RelL.evo (zl : ∀ p, Z p → ∃ xs, H p = some (.lst xs)) (e : Evo Z G H Z' G' H') : ∀ {vs : List V} {ds : List D}, RelL W Z G H vs ds → RelL W Z' G' H' vs ds
  | _, _, .nil => .nil
  | _, _, .cons r t => .cons (Rel.evo zl e r) (RelL.evo zl e t)
end
mutual
/-- fewer places to keep away from -/
theorem Rel.anti (z : ∀ p, Z' p → Z p) : ∀ {v : V} {d : D}, Rel W Z G H v d → Rel W Z' G H v d
  | _, _, .non => .non
  | _, _, .bl b => .bl b
  | _, _, .int i => .int i
  | _, _, .str s => .str s
  | _, _, .tup h g r => .tup h g (RelL.anti z r)
  | _, _, .lst h g n r => .lst h g (fun q => n (z _ q)) (RelL.anti z r)
  | _, _, .crowd h g l r1 r2 => .crowd h g l (Rel.anti z r1) (Rel.anti z r2)
  | _, _, .hand g => .hand g
  | _, _, .tape g => .tape g
  | _, _, .emp h g => .emp h g
  | _, _, .scr s l => .scr (s.imp id fun ⟨a, b, c, d⟩ => ⟨a, b, fun q => c (z _ q), d⟩) l
theorem RelL.anti (z : ∀ p, Z' p → Z p) : ∀ {vs : List V} {ds : List D}, RelL W Z G H vs ds → RelL W Z' G H vs ds
  | _, _, .nil => .nil
  | _, _, .cons r t => .cons (Rel.anti z r) (RelL.anti z t)
end
mutual
/-- a place that holds nothing yet is kept away from -/
theorem Rel.away {p : Addr} (hp : H p = none) : ∀ {v : V} {d : D}, Rel W Z G H v d → Rel W (fun q => Z q ∨ q = p) G H v d
  | _, _, .non => .non
  | _, _, .bl b => .bl b
  | _, _, .int i => .int i
  | _, _, .str s => .str s
  | _, _, .tup h g r => .tup h g (RelL.away hp r)
  | _, _, .lst h g n r => .lst h g (fun q => q.elim n (ne_of_none h hp)) (RelL.away hp r)
  | _, _, .crowd h g l r1 r2 => .crowd h g l (Rel.away hp r1) (Rel.away hp r2)
  | _, _, .hand g => .hand g
  | _, _, .tape g => .tape g
  | _, _, .emp h g => .emp h g
  | _, _, .scr s l => .scr (s.imp id fun ⟨a, b, c, d⟩ => ⟨a, b, fun q => q.elim c fun q => (by rw [q, hp] at d; cases d), d⟩) l
theorem RelL.away {p : Addr} (hp : H p = none) : ∀ {vs : List V} {ds : List D}, RelL W Z G H vs ds → RelL W (fun q => Z q ∨ q = p) G H vs ds
  | _, _, .nil => .nil
  | _, _, .cons r t => .cons (Rel.away hp r) (RelL.away hp t)
end
theorem tiesD_flat (ts : List (Nat × Nat)) : (tiesD ts).flat = true := by
  unfold tiesD
  rw [flat_tup, List.all_eq_true]
  intro x hx
  obtain ⟨t, _, rfl⟩ := List.mem_map.mp hx
  rfl
theorem needsD_flat (ns : List Nat) : (needsD ns).flat = true := by
  unfold needsD
  rw [flat_tup, List.all_eq_true]
  intro x hx
  obtain ⟨t, _, rfl⟩ := List.mem_map.mp hx
  rfl
mutual
/-- what holds no list does not lean on the places kept away from -/
theorem Rel.flat : ∀ {v : V} {d : D}, Rel W Z G H v d → d.flat = true → Rel W Z' G H v d
  | _, _, .non, _ => .non
  | _, _, .bl b, _ => .bl b
  | _, _, .int i, _ => .int i
  | _, _, .str s, _ => .str s
  | _, _, .tup h g r, f => .tup h g (RelL.flat r (by rw [flat_tup] at f; exact f))
  | _, _, .lst _ _ _ _, f => by cases f
  | _, _, .hand _, f => by cases f
  | _, _, .tape _, f => by cases f
  | _, _, .emp _ _, f => by cases f
  | _, _, .scr _ _, f => by cases f
  | _, _, .crowd (ts := ts) (ns := ns) h g l r1 r2, _ => .crowd h g l (Rel.flat r1 (tiesD_flat ts)) (Rel.flat r2 (needsD_flat ns))
theorem RelL.flat : ∀ {vs : List V} {ds : List D}, RelL W Z G H vs ds → ds.all D.flat = true → RelL W Z' G H vs ds
  | _, _, .nil, _ => .nil
  | _, _, .cons r t, f => by
    rw [List.all_cons, Bool.and_eq_true] at f
    exact .cons (Rel.flat r f.1) (RelL.flat t f.2)
end
theorem RelL.length : ∀ {vs : List V} {ds : List D}, RelL W Z G H vs ds → vs.length = ds.length
  | _, _, .nil => rfl
  | _, _, .cons r t => by rw [List.length_cons, List.length_cons, RelL.length t]
theorem RelL.append : ∀ {vs ws : List V} {ds es : List D}, RelL W Z G H vs ds → RelL W Z G H ws es → RelL W Z G H (vs ++ ws) (ds ++ es)
  | _, _, _, _, .nil, h => h
  | _, _, _, _, .cons r t, h => .cons r (RelL.append t h)
theorem RelL.get : ∀ {vs : List V} {ds : List D} {i : Nat} {v : V}, RelL W Z G H vs ds → vs[i]? = some v → ∃ d, ds[i]? = some d ∧ Rel W Z G H v d
  | _, _, _, _, .nil, h => by simp at h
  | _, _, 0, _, .cons r t, h => by simp at h; subst h; exact ⟨_, rfl, r⟩
  | _, _, i + 1, _, .cons r t, h => by
    obtain ⟨d, e, q⟩ := RelL.get (i := i) t (by simpa using h)
    exact ⟨d, by simpa using e, q⟩
theorem RelL.getD : ∀ {vs : List V} {ds : List D} {i : Nat} {d : D}, RelL W Z G H vs ds → ds[i]? = some d → ∃ v, vs[i]? = some v ∧ Rel W Z G H v d
  | _, _, _, _, .nil, h => by simp at h
  | _, _, 0, _, .cons r t, h => by simp at h; subst h; exact ⟨_, rfl, r⟩
  | _, _, i + 1, _, .cons r t, h => by
    obtain ⟨d, e, q⟩ := RelL.getD (i := i) t (by simpa using h)
    exact ⟨d, by simpa using e, q⟩
theorem RelL.take : ∀ {vs : List V} {ds : List D} (n : Nat), RelL W Z G H vs ds → RelL W Z G H (vs.take n) (ds.take n)
  | _, _, 0, _ => .nil
  | _, _, n + 1, .nil => .nil
  | _, _, n + 1, .cons r t => .cons r (RelL.take n t)
theorem RelL.drop : ∀ {vs : List V} {ds : List D} (n : Nat), RelL W Z G H vs ds → RelL W Z G H (vs.drop n) (ds.drop n)
  | _, _, 0, h => h
  | _, _, n + 1, .nil => .nil
  | _, _, n + 1, .cons r t => RelL.drop n t
theorem RelL.replicate {vs : List V} {ds : List D} (h : RelL W Z G H vs ds) : ∀ n : Nat, RelL W Z G H (List.replicate n vs).flatten (List.replicate n ds).flatten
  | 0 => .nil
  | n + 1 => by
    rw [List.replicate_succ, List.replicate_succ, List.flatten_cons, List.flatten_cons]
    exact h.append (RelL.replicate h n)
/-! the data of the library -/
mutual
theorem RelL.dp {K : PySem.W.Frag} : ∀ {vs : List V} {ds : List D}, RelL W Z G H vs ds → PyData.canLayAll0 (D.toPs ds) = true → DpAll K H vs (D.toPs ds)
  | _, _, .nil, _ => .nil
  | _, _, .cons r t, s => by
    have s' := Bool.and_eq_true_iff.mp (show (PyData.canLay0 _ && PyData.canLayAll0 _) = true from s)
    exact .cons (Rel.dp0 r s'.1) (RelL.dp t s'.2)
theorem Rel.dp0 {K : PySem.W.Frag} : ∀ {v : V} {d : D}, Rel W Z G H v d → PyData.canLay0 d.toP = true → Dp K H v d.toP
  | _, _, .non, _ => .non
  | _, _, .bl b, _ => .bl b
  | _, _, .int i, _ => .int i
  | _, _, .str s, _ => .str s
  | _, _, .tup h g r, s => .tup (.of h) (RelL.dp r s)
  | _, _, .lst h g n r, s => .lst (.of h) (RelL.dp r s)
  | _, _, .crowd _ _ _ _ _, s => by cases s
  | _, _, .hand _, s => by cases s
  | _, _, .tape _, s => by cases s
  | _, _, .emp _ _, s => by cases s
  | _, _, .scr _ _, s => by cases s
end
theorem Rel.dp {K : PySem.W.Frag} {v : V} {d : D} (r : Rel W Z G H v d) (s : SeqAt.shaped d.toP = true) : Dp K H v d.toP := r.dp0 (SeqAt.canLay_of_shaped s)
end
end Fm

/-! FmC: the state, readings, operators. -/
namespace Fm
open PySem PySem.Spec PyProof.Rows L2

def noZ : Addr → Prop := fun _ => False
/-- what is kept in a crowd's dict -/
def lookS : List Str := ["beside", "least", "forts"]
def GOk (W : Wd) (G : Gh) (H : Hp) (p : Addr) : GK → Prop
  | .looked n ts ns => ∃ kvs : List (Key × V), H p = some (.dK kvs) ∧ (kvs.map (·.1)).Nodup ∧ ∀ kv ∈ kvs, ∃ s d, kv.1 = Sum.inr s ∧ (s ∈ lookS ∧ W.cache n ts ns s = some d) ∧ d.flat = true ∧ Rel W noZ G H kv.2 d
  | .hand => ∃ (c : Addr) (cells : List Int) (i r m t : Int), H p = some (.lst [.ref c, .int i, .int r, .int m, .int t]) ∧ G c = some (.tape cells) ∧ cells.length ≤ 63 ∧
      (∀ x ∈ cells, 0 ≤ x) ∧ 0 ≤ i ∧ 0 ≤ r ∧ 0 ≤ m ∧ 0 ≤ t
  | .tape cells => H p = some (.lst (cells.map V.int))
def GInv (W : Wd) (G : Gh) (H : Hp) : Prop := ∀ p k, G p = some k → GOk W G H p k
theorem GOk.tracked {W : Wd} {G : Gh} {H : Hp} {p : Addr} {k : GK} (h : GOk W G H p k) : ∃ o, H p = some o ∧ ((∃ kvs, o = .dK kvs) ∨ ∃ xs, o = .lst xs) := by
  cases k with
  | looked n ts ns =>
    obtain ⟨kvs, h, _⟩ := h
    exact ⟨_, h, .inl ⟨_, rfl⟩⟩
  | hand =>
    obtain ⟨c, cells, i, r, m, t, h, _⟩ := h
    exact ⟨_, h, .inr ⟨_, rfl⟩⟩
  | tape cells => exact ⟨_, h, .inr ⟨_, rfl⟩⟩
theorem GOk.ext {W : Wd} {G G' : Gh} {H H' : Hp} {p : Addr} {k : GK} (e : Ext G H G' H') (hp : H' p = H p) (h : GOk W G H p k) : GOk W G' H' p k := by
  cases k with
  | looked n ts ns =>
    obtain ⟨kvs, h, l, r⟩ := h
    refine ⟨kvs, hp.trans h, l, fun kv hk => ?_⟩
    obtain ⟨s, d, e1, e2, f, q⟩ := r kv hk
    exact ⟨s, d, e1, e2, f, q.ext e⟩
  | hand =>
    obtain ⟨c, cells, i, r, m, t, h, hc, gc, rest⟩ := h
    exact ⟨c, cells, i, r, m, t, hp.trans h, e.gh _ _ hc, gc, rest⟩
  | tape cells => exact hp.trans h
section
variable {W : Wd} {Z : Addr → Prop} {G G' : Gh} {H H' : Hp}
theorem GInv.free (g : GInv W G H) {p : Addr} (h : H p = none) : G p = none := by
  cases q : G p with
  | none => rfl
  | some k =>
    obtain ⟨o, e, _⟩ := (g p k q).tracked
    rw [h] at e
    cases e
theorem GInv.notTup (g : GInv W G H) {p : Addr} {xs : List V} (h : H p = some (.tup xs)) : G p = none := by
  cases q : G p with
  | none => rfl
  | some k =>
    obtain ⟨o, e, z⟩ := (g p k q).tracked
    rw [h] at e
    cases e
    rcases z with ⟨_, z⟩ | ⟨_, z⟩ <;> cases z
theorem GInv.new (g : GInv W G H) {p : Addr} {o : HO} (h : H p = none) : GInv W G (upd H p o) := fun q k e =>
  (g q k e).ext (Ext.new h) (upd_ne fun z => by
    subst z
    rw [g.free h] at e
    cases e)

/-! ### the state -/
/-- how a name's value lies -/
def RelS (W : Wd) (Z : Addr → Prop) (G : Gh) (H : Hp) (v : V) (d : D) : Prop := match d with
  | .cell xs => ∃ p vs, v = .ref p ∧ H p = some (.lst vs) ∧ Z p ∧ RelL W Z G H vs xs
  | d => Rel W Z G H v d
def ZOk (Z : Addr → Prop) (G : Gh) (H : Hp) : Prop := ∀ p, Z p → (∃ xs, H p = some (.lst xs)) ∧ G p = none
structure SOk (W : Wd) (Z : Addr → Prop) (G : Gh) (H : Hp) (env : Env) (σ : L2.St) : Prop where
  len : env.length ≤ σ.length
  gi : GInv W G H
  zo : ZOk Z G H
  sl : ∀ (i : Nat) d, env[i]? = some (some d) → ∃ v, σ[i]? = some (some v) ∧ RelS W Z G H v d
  sep : ∀ (i j : Nat) xs ys p, env[i]? = some (some (.cell xs)) → env[j]? = some (some (.cell ys)) → σ[i]? = some (some (.ref p)) → σ[j]? = some (some (.ref p)) → i = j
theorem RelS.ext (e : Ext G H G' H') (zo : ZOk Z G H) {v : V} {d : D} (r : RelS W Z G H v d) : RelS W Z G' H' v d := by
  cases d with
  | cell xs =>
    obtain ⟨p, vs, rfl, h, z, q⟩ := r
    exact ⟨p, vs, rfl, (e.ob _ _ h (zo p z).2).1, z, q.ext e⟩
  | _ => exact Rel.ext e r
theorem ZOk.ext (e : Ext G H G' H') (zo : ZOk Z G H) : ZOk Z G' H' := fun p z => by
  obtain ⟨⟨xs, h⟩, g⟩ := zo p z
  exact ⟨⟨xs, (e.ob _ _ h g).1⟩, (e.ob _ _ h g).2⟩
theorem SOk.ext {env : Env} {σ : L2.St} (s : SOk W Z G H env σ) (e : Ext G H G' H') (g : GInv W G' H') : SOk W Z G' H' env σ :=
  ⟨s.len, g, s.zo.ext e, fun i d h => let ⟨v, h1, r⟩ := s.sl i d h; ⟨v, h1, r.ext e s.zo⟩, s.sep⟩
theorem Rel.s {v : V} {d : D} (r : Rel W Z G H v d) : RelS W Z G H v d := by
  cases d with
  | cell xs => cases r
  | _ => exact r
theorem RelS.r {v : V} {d : D} (r : RelS W Z G H v d) (h : d.isCell = false) : Rel W Z G H v d := by
  cases d with
  | cell xs => cases h
  | _ => exact r
/-- a list of any kind -/
theorem RelS.list {v : V} {d : D} {xs : List D} (r : RelS W Z G H v d) (h : d.asL = some xs) : ∃ p vs, v = .ref p ∧ H p = some (.lst vs) ∧ RelL W Z G H vs xs := by
  cases d with
  | cell ys =>
    obtain ⟨p, vs, rfl, h1, z, q⟩ := r
    cases h
    exact ⟨p, vs, rfl, h1, q⟩
  | lst ys =>
    cases h
    cases r with
    | lst h1 g n q => exact ⟨_, _, rfl, h1, q⟩
  | _ => cases h
theorem RelS.tup {v : V} {xs : List D} (r : RelS W Z G H v (.tup xs)) : ∃ p vs, v = .ref p ∧ H p = some (.tup vs) ∧ RelL W Z G H vs xs := by
  cases r with
  | tup h1 g q => exact ⟨_, _, rfl, h1, q⟩
theorem RelS.its {v : V} {d : D} {xs : List D} (r : RelS W Z G H v d) (h : d.its = some xs) : ∃ p vs, v = .ref p ∧ (H p = some (.lst vs) ∨ H p = some (.tup vs)) ∧ RelL W Z G H vs xs := by
  cases d with
  | cell ys =>
    obtain ⟨p, vs, rfl, h1, z, q⟩ := r
    cases h
    exact ⟨p, vs, rfl, .inl h1, q⟩
  | lst ys =>
    cases h
    cases r with
    | lst h1 g n q => exact ⟨_, _, rfl, .inl h1, q⟩
  | tup ys =>
    cases h
    cases r with
    | tup h1 g q => exact ⟨_, _, rfl, .inr h1, q⟩
  | _ => cases h
theorem RelS.int {v : V} {i : Int} (r : RelS W Z G H v (.int i)) : v = .int i := by
  cases r
  rfl
theorem RelS.bl {v : V} {b : Bool} (r : RelS W Z G H v (.bl b)) : v = .bl b := by
  cases r
  rfl
theorem RelS.str {v : V} {s : Str} (r : RelS W Z G H v (.str s)) : v = .str s := by
  cases r
  rfl
theorem RelS.dp {v : V} {d : D} (r : RelS W Z G H v d) (s : SeqAt.shaped d.toP = true) : Dp W.K H v d.toP := by
  cases d with
  | cell xs =>
    obtain ⟨p, vs, rfl, h1, z, q⟩ := r
    exact .lst (.of h1) (q.dp (SeqAt.canLay_of_shaped s))
  | _ => exact Rel.dp r s

/-! ### what follows -/
def RQ (W : Wd) (Z : Addr → Prop) (G : Gh) (H : Hp) (Q : VK) (d : D) : Prop := ∀ G' H' v, Ext G H G' H' → GInv W G' H' → RelS W Z G' H' v d → Q v H'
/-- a list just made -/
def RN (W : Wd) (Z : Addr → Prop) (G : Gh) (H : Hp) (Q : VK) (xs : List D) : Prop :=
  ∀ G' H' vs p, Ext G H G' H' → GInv W G' H' → H p = none → H' p = some (.lst vs) → G' p = none → RelL W (fun q => Z q ∨ q = p) G' H' vs xs → Q (.ref p) H'
def KF (b : Bool) (W : Wd) (Z : Addr → Prop) (G : Gh) (H : Hp) (Q : VK) (d : D) : Prop := match b, d with
  | true, .lst xs => RN W Z G H Q xs
  | _, d => RQ W Z G H Q d
theorem RQ.step {Q : VK} {d : D} (e : Ext G H G' H') (h : RQ W Z G H Q d) : RQ W Z G' H' Q d := fun G2 H2 v e2 g2 r2 => h G2 H2 v (e.trans e2) g2 r2
theorem Ext.none {p : Addr} (e : Ext G H G' H') (h : H' p = none) (g : GInv W G' H') : H p = none := by
  cases q : H p with
  | none => rfl
  | some o =>
    cases q2 : G p with
    | none =>
      rw [(e.ob p o q q2).1] at h
      cases h
    | some k =>
      have z := g.free h
      rw [e.gh p k q2] at z
      cases z
theorem RN.step {Q : VK} {xs : List D} (e : Ext G H G' H') (g : GInv W G' H') (h : RN W Z G H Q xs) : RN W Z G' H' Q xs := fun G2 H2 vs p e2 g2 hp h2 z r => h G2 H2 vs p (e.trans e2) g2 (e.none hp g) h2 z r
theorem KF.step {b : Bool} {Q : VK} {d : D} (e : Ext G H G' H') (g : GInv W G' H') (h : KF b W Z G H Q d) : KF b W Z G' H' Q d := by
  cases b with
  | false => exact RQ.step e h
  | true =>
    cases d with
    | lst xs => exact RN.step e g h
    | _ => exact RQ.step e h
/-- what is wanted of any list holds of one just made -/
theorem RQ.rn {Q : VK} {xs : List D} (zo : ZOk Z G H) (h : RQ W Z G H Q (.lst xs)) : RN W Z G H Q xs := fun G' H' vs p e g hp h' gp r =>
  h G' H' (.ref p) e g (.lst h' gp (fun z => by
    obtain ⟨⟨ys, q⟩, _⟩ := zo p z
    rw [hp] at q
    cases q) (r.anti fun q z => .inl z))
theorem RQ.kf {b : Bool} {Q : VK} {d : D} (zo : ZOk Z G H) (h : RQ W Z G H Q d) : KF b W Z G H Q d := by
  cases b with
  | false => exact h
  | true =>
    cases d with
    | lst xs => exact RQ.rn zo h
    | _ => exact h
theorem KF.rq {b : Bool} {Q : VK} {d : D} (h : KF b W Z G H Q d) (n : ∀ xs, d ≠ .lst xs) : RQ W Z G H Q d := by
  cases b with
  | false => exact h
  | true =>
    cases d with
    | lst xs => exact absurd rfl (n xs)
    | _ => exact h
/-- a list is laid -/
theorem RN.lay {Q : VK} {xs : List D} {vs : List V} {p : Addr} (g : GInv W G H) (hp : H p = none) (r : RelL W Z G H vs xs) (h : RN W Z G H Q xs) : Q (.ref p) (upd H p (.lst vs)) :=
  h G _ vs p (Ext.new hp) (g.new hp) hp upd_same (g.free hp) ((r.away hp).ext (Ext.new hp))
theorem KF.lay {b : Bool} {Q : VK} {xs : List D} {vs : List V} {p : Addr} (zo : ZOk Z G H) (g : GInv W G H) (hp : H p = none) (r : RelL W Z G H vs xs) (h : KF b W Z G H Q (.lst xs)) : Q (.ref p) (upd H p (.lst vs)) := by
  cases b with
  | true => exact RN.lay g hp r h
  | false => exact RN.lay g hp r (RQ.rn zo h)
theorem RQ.layT {Q : VK} {xs : List D} {vs : List V} {p : Addr} (g : GInv W G H) (hp : H p = none) (r : RelL W Z G H vs xs) (h : RQ W Z G H Q (.tup xs)) : Q (.ref p) (upd H p (.tup vs)) :=
  h G _ _ (Ext.new hp) (g.new hp) (Rel.tup upd_same (g.free hp) (r.ext (Ext.new hp)))
theorem RQ.at {Q : VK} {d : D} {v : V} (g : GInv W G H) (r : RelS W Z G H v d) (h : RQ W Z G H Q d) : Q v H := h G H v (Ext.refl G H) g r
theorem KF.at {b : Bool} {Q : VK} {d : D} {v : V} (g : GInv W G H) (r : RelS W Z G H v d) (n : ∀ xs, d ≠ .lst xs) (h : KF b W Z G H Q d) : Q v H := (h.rq n).at g r

/-! ### operators -/
variable {X : Cx}
theorem line_max : maxL ≤ sizeLine := by rw [sizeLine_eq]; decide
def rAddD (K : PySem.W.Frag) : R2 := fun x y H Q => rI0 (fun i j => .int (i + j)) x y H Q ∨ rCatA K x y H Q ∨ rCat x y H Q ∨ (∃ i j, x = .str i ∧ y = .str j ∧ i.length + j.length ≤ sizeLine ∧ Q (.str (i ++ j)) H)
theorem op_addD : OpR X (binaryOp .Add) (rAddD X.K) := op_add.or (op_catA.or (op_cat.or op_add_str))
def rMulD : R2 := fun x y H Q => rI CMul (fun i j => .int (i * j)) x y H Q ∨ rRep x y H Q
theorem op_mulD : OpR X (binaryOp .Mult) rMulD := op_mul.or op_rep
def rLtD (K : PySem.W.Frag) : R2 := fun x y H Q => rI0 (fun i j => .bl (decide (i < j))) x y H Q ∨ rLtT K x y H Q
theorem op_ltD (hu : X.A.units < cLine) : OpR X (compareOp .Lt) (rLtD X.K) := op_lt.or (op_ltT hu)
def rInT (K : PySem.W.Frag) : R2 := fun x y H Q => ∃ d ds, Dp K H x d ∧ Dp K H y (.tuple ds) ∧ SeqAt.shaped d = true ∧ SeqAt.shaped (.list ds) = true ∧ Q (.bl (ds.any fun z => PyData.eqv z d)) H
def rNotInT (K : PySem.W.Frag) : R2 := fun x y H Q => ∃ d ds, Dp K H x d ∧ Dp K H y (.tuple ds) ∧ SeqAt.shaped d = true ∧ SeqAt.shaped (.list ds) = true ∧ Q (.bl (!ds.any fun z => PyData.eqv z d)) H
theorem op_inT (hu : X.A.units + 65 < cLine) : OpR X (compareOp .In) (rInT X.K) := by
  intro pins s σ H x y v u Q I rx ry h
  obtain ⟨d, ds, hd, he, sd, se, q⟩ := h
  obtain ⟨as, r1⟩ := Dp.reads I d x v hd rx
  obtain ⟨bs, r2⟩ := Dp.reads I (.tuple ds) y u he ry
  exact SeqAt.in_tuple_reads r2 r1 (SeqAt.canLay_of_shaped se) (SeqAt.canLay_of_shaped sd) (room_in_shaped sd hu) ⟨.bl _, H, I, rfl, q⟩
theorem op_notInT (hu : X.A.units + 65 < cLine) : OpR X (compareOp .NotIn) (rNotInT X.K) := by
  intro pins s σ H x y v u Q I rx ry h
  obtain ⟨d, ds, hd, he, sd, se, q⟩ := h
  obtain ⟨as, r1⟩ := Dp.reads I d x v hd rx
  obtain ⟨bs, r2⟩ := Dp.reads I (.tuple ds) y u he ry
  exact SeqAt.notIn_tuple_reads r2 r1 (SeqAt.canLay_of_shaped se) (SeqAt.canLay_of_shaped sd) (room_in_shaped sd hu) ⟨.bl _, H, I, rfl, q⟩
def rInA (K : PySem.W.Frag) : R2 := fun x y H Q => rInD K x y H Q ∨ rInT K x y H Q
def rNotInA (K : PySem.W.Frag) : R2 := fun x y H Q => rNotInD K x y H Q ∨ rNotInT K x y H Q
theorem op_inA (hu : X.A.units + 65 < cLine) : OpR X (compareOp .In) (rInA X.K) := (op_inD hu).or (op_inT hu)
theorem op_notInA (hu : X.A.units + 65 < cLine) : OpR X (compareOp .NotIn) (rNotInA X.K) := (op_notInD hu).or (op_notInT hu)
def rIsD : R2 := fun x y H Q => (y = .non ∧ Q (.bl (decide (x = .non))) H) ∨ ∃ a b, x = .bl a ∧ y = .bl b ∧ Q (.bl (decide (a = b))) H
def rNotD : R2 := fun x y H Q => (y = .non ∧ Q (.bl (!decide (x = .non))) H) ∨ ∃ a b, x = .bl a ∧ y = .bl b ∧ Q (.bl (!decide (a = b))) H
theorem op_isB : OpR X (compareOp .Is) (fun x y H Q => ∃ a b, x = .bl a ∧ y = .bl b ∧ Q (.bl (decide (a = b))) H) := by
  intro pins s σ H x y v u Q I rx ry h
  obtain ⟨a, b, rfl, rfl, q⟩ := h
  cases (show v = Value.bool a from rx)
  cases (show u = Value.bool b from ry)
  by_cases e : a = b
  · subst e
    exact wpAny_is_self rfl ⟨.bl true, H, I, rfl, by simpa using q⟩
  · exact wpAny_is_other rfl (fun z => e (Value.bool.inj z)) ⟨.bl false, H, I, rfl, by simpa [e] using q⟩
theorem op_notB : OpR X (compareOp .IsNot) (fun x y H Q => ∃ a b, x = .bl a ∧ y = .bl b ∧ Q (.bl (!decide (a = b))) H) := by
  intro pins s σ H x y v u Q I rx ry h
  obtain ⟨a, b, rfl, rfl, q⟩ := h
  cases (show v = Value.bool a from rx)
  cases (show u = Value.bool b from ry)
  by_cases e : a = b
  · subst e
    exact wpAny_isNot_self rfl ⟨.bl false, H, I, rfl, by simpa using q⟩
  · exact wpAny_isNot_other rfl (fun z => e (Value.bool.inj z)) ⟨.bl true, H, I, rfl, by simpa [e] using q⟩
theorem op_isD : OpR X (compareOp .Is) rIsD := op_isN.or op_isB
theorem op_notD : OpR X (compareOp .IsNot) rNotD := op_notN.or op_notB
/-- the reading of my operator -/
def rO (K : PySem.W.Frag) : O2 → R2
  | .add => rAddD K
  | .sub => rI0 fun i j => .int (i - j)
  | .mul => rMulD
  | .mod => rI (fun _ j => 0 < j) fun i j => .int (i % j)
  | .fdiv => rI CDiv fun i j => .int (i / j)
  | .pow => rI CPow fun i j => .int (i ^ j.toNat)
  | .eq => rEqD K
  | .ne => rNeD K
  | .lt => rLtD K
  | .le => rI0 fun i j => .bl (decide (i ≤ j))
  | .gt => rI0 fun i j => .bl (decide (j < i))
  | .ge => rI0 fun i j => .bl (decide (j ≤ i))
  | .isin => rInA K
  | .notin => rNotInA K
  | .is_ => rIsD
  | .isnot => rNotD
theorem ints_map : ∀ {xs : List D} {ns : List Int}, ints? xs = some ns → xs = ns.map D.int
  | [], ns, h => by cases h; rfl
  | .int i :: r, ns, h => by
    have h' : (ints? r).map (i :: ·) = some ns := h
    cases e : ints? r with
    | none => rw [e] at h'; cases h'
    | some ms =>
      rw [e] at h'
      cases h'
      rw [List.map_cons, ← ints_map e]
  | .non :: r, ns, h => by cases h
  | .bl _ :: r, ns, h => by cases h
  | .str _ :: r, ns, h => by cases h
  | .tup _ :: r, ns, h => by cases h
  | .lst _ :: r, ns, h => by cases h
  | .cell _ :: r, ns, h => by cases h
  | .crowd _ _ _ :: r, ns, h => by cases h
  | .hand :: r, ns, h => by cases h
  | .scr _ :: r, ns, h => by cases h
  | .tape _ :: r, ns, h => by cases h
  | .emp :: r, ns, h => by cases h
theorem bools_map : ∀ {xs : List D} {ns : List Bool}, bools? xs = some ns → xs = ns.map D.bl
  | [], ns, h => by cases h; rfl
  | .bl i :: r, ns, h => by
    have h' : (bools? r).map (i :: ·) = some ns := h
    cases e : bools? r with
    | none => rw [e] at h'; cases h'
    | some ms =>
      rw [e] at h'
      cases h'
      rw [List.map_cons, ← bools_map e]
  | .non :: r, ns, h => by cases h
  | .int _ :: r, ns, h => by cases h
  | .str _ :: r, ns, h => by cases h
  | .tup _ :: r, ns, h => by cases h
  | .lst _ :: r, ns, h => by cases h
  | .cell _ :: r, ns, h => by cases h
  | .crowd _ _ _ :: r, ns, h => by cases h
  | .hand :: r, ns, h => by cases h
  | .scr _ :: r, ns, h => by cases h
  | .tape _ :: r, ns, h => by cases h
  | .emp :: r, ns, h => by cases h
theorem RelL.ints : ∀ {ns : List Int} {vs : List V}, RelL W Z G H vs (ns.map D.int) → vs = ns.map V.int
  | [], _, .nil => rfl
  | n :: ns, _, .cons r t => by
    cases r
    rw [List.map_cons, ← RelL.ints t]
theorem RelL.bools : ∀ {ns : List Bool} {vs : List V}, RelL W Z G H vs (ns.map D.bl) → vs = ns.map V.bl
  | [], _, .nil => rfl
  | n :: ns, _, .cons r t => by
    cases r
    rw [List.map_cons, ← RelL.bools t]
theorem lexI_eq : ∀ (xs ys : List Int), lexI xs ys = HT.lexLt xs ys := by
  intro xs
  induction xs with
  | nil => intro ys; cases ys <;> rfl
  | cons x xs ih =>
    intro ys
    cases ys with
    | nil => rfl
    | cons y ys =>
      show (if x = y then lexI xs ys else decide (x < y)) = _
      rw [ih]
      first | rfl | (unfold HT.lexLt; rfl) | simp [HT.lexLt]
end
end Fm

/-! FmD: each operator of mine is the machine's. -/
namespace Fm
open PySem PySem.Spec PyProof.Rows L2
section
variable {W : Wd} {Z : Addr → Prop} {G G' : Gh} {H H' : Hp} {Q : VK} {x y : V} {b : Bool}
theorem wp_ite {α : Type} {c : Prop} [Decidable c] {t u : T α} {q : α → Prop} (h : (if c then t else u).wp q) : (c ∧ t.wp q) ∨ (¬ c ∧ u.wp q) := by
  by_cases hc : c
  · rw [if_pos hc] at h; exact .inl ⟨hc, h⟩
  · rw [if_neg hc] at h; exact .inr ⟨hc, h⟩
theorem wp_if {α : Type} {c : Prop} [Decidable c] {t : T α} {q : α → Prop} (h : (if c then t else T.bad).wp q) : c ∧ t.wp q := by
  rcases wp_ite h with h | ⟨_, h⟩
  · exact h
  · exact h.elim
theorem add_ok (gi : GInv W G H) (zo : ZOk Z G H) : ∀ {a c : D}, RelS W Z G H x a → RelS W Z G H y c → (addD a c).wp (KF b W Z G H Q) → rAddD W.K x y H Q := by
  have lists : ∀ {a c : D} {xs ys : List D}, a.asL = some xs → c.asL = some ys → RelS W Z G H x a → RelS W Z G H y c → (if xs.length + ys.length ≤ maxL then T.ret (D.lst (xs ++ ys)) else T.bad).wp (KF b W Z G H Q) → rAddD W.K x y H Q := by
    intro a c xs ys ea ec ra rc h
    obtain ⟨hl, h⟩ := wp_if h
    obtain ⟨p, vs, rfl, h1, r1⟩ := ra.list ea
    obtain ⟨q, ws, rfl, h2, r2⟩ := rc.list ec
    refine .inr (.inr (.inl ⟨p, q, vs, ws, rfl, rfl, h1, h2, ?_, fun l hn => ?_⟩))
    · rw [r1.length, r2.length]
      exact Nat.le_trans hl line_max
    · exact KF.lay zo gi hn (r1.append r2) h
  have gen : ∀ {a c : D}, RelS W Z G H x a → RelS W Z G H y c → (match a.asL, c.asL with
    | some xs, some ys => if xs.length + ys.length ≤ maxL then T.ret (D.lst (xs ++ ys)) else T.bad
    | _, _ => T.bad).wp (KF b W Z G H Q) → rAddD W.K x y H Q := by
    intro a c ra rc h
    cases ea : a.asL with
    | none => rw [ea] at h; exact h.elim
    | some xs =>
      cases ec : c.asL with
      | none => rw [ea, ec] at h; exact h.elim
      | some ys =>
        rw [ea, ec] at h
        exact lists ea ec ra rc h
  intro a c ra rc h
  unfold addD at h
  split at h
  · obtain rfl := ra.int
    obtain rfl := rc.int
    exact .inl ⟨_, _, rfl, rfl, KF.at gi (Rel.int _).s (fun _ z => nomatch z) h⟩
  · obtain ⟨hl, h⟩ := wp_if h
    rename_i xs ys
    have h' := KF.rq h (fun _ z => nomatch z)
    obtain ⟨p, vs, rfl, h1, r1⟩ := ra.tup
    obtain ⟨q, ws, rfl, h2, r2⟩ := rc.tup
    refine .inr (.inl ⟨p, q, vs, ws, rfl, rfl, .of h1, .of h2, ?_, fun e => ?_, fun e1 e2 => ?_, fun e1 e2 l hn => ?_⟩)
    · rw [r1.length, r2.length]
      exact Nat.le_trans hl line_max
    · subst e
      cases r1
      exact h'.at gi rc
    · subst e2
      cases r2
      rw [List.append_nil] at h'
      exact h'.at gi ra
    · exact RQ.layT gi hn (r1.append r2) h'
  · obtain ⟨hl, h⟩ := wp_if h
    obtain rfl := ra.str
    obtain rfl := rc.str
    exact .inr (.inr (.inr ⟨_, _, rfl, rfl, Nat.le_trans hl line_max, KF.at gi (Rel.str _).s (fun _ z => nomatch z) h⟩))
  · exact gen ra rc h
theorem mul_ok (gi : GInv W G H) (zo : ZOk Z G H) {a c : D} (ra : RelS W Z G H x a) (rc : RelS W Z G H y c) (h : (mulD a c).wp (KF b W Z G H Q)) : rMulD x y H Q := by
  unfold mulD at h
  split at h
  · obtain ⟨hl, h⟩ := wp_if h
    simp only [Bool.or_eq_true, Bool.and_eq_true, decide_eq_true_eq] at hl
    obtain rfl := ra.int
    obtain rfl := rc.int
    exact .inl ⟨_, _, rfl, rfl, hl, KF.at gi (Rel.int _).s (fun _ z => nomatch z) h⟩
  · rename_i k _
    obtain rfl := rc.int
    cases ea : a.asL with
    | none => rw [ea] at h; exact h.elim
    | some xs =>
      rw [ea] at h
      obtain ⟨hl, h⟩ := wp_if h
      simp only [Bool.and_eq_true, decide_eq_true_eq] at hl
      obtain ⟨p, vs, rfl, h1, r1⟩ := ra.list ea
      refine .inr ⟨p, k, vs, rfl, rfl, h1, hl.1.1, hl.1.2, ?_, fun l hn => KF.lay zo gi hn (r1.replicate _) h⟩
      rw [r1.length]
      exact Nat.le_trans hl.2 line_max
  · exact h.elim
theorem eqD_ok {a c : D} {q : Bool → Prop} (ra : RelS W Z G H x a) (rc : RelS W Z G H y c) (h : (eqD a c).wp q) : ∃ d e, Dp W.K H x d ∧ Dp W.K H y e ∧ SeqAt.shaped d = true ∧ SeqAt.shaped e = true ∧ q (PyData.eqv d e) := by
  unfold eqD at h
  obtain ⟨hs, h⟩ := wp_if h
  rw [Bool.and_eq_true] at hs
  exact ⟨_, _, ra.dp hs.1, rc.dp hs.2, hs.1, hs.2, h⟩
theorem dps {K : PySem.W.Frag} : ∀ {vs : List V} {ds : List D}, RelL W Z G H vs ds → PyData.canLayAll0 (ds.map D.toP) = true → DpAll K H vs (ds.map D.toP) := fun r h => by
  rw [← toPs_map] at h ⊢
  exact r.dp h
theorem any_map (ds : List D) (d : PyData) : (ds.map D.toP).any (fun z => PyData.eqv z d) = ds.any fun z => PyData.eqv z.toP d := by
  rw [List.any_map]
  rfl
theorem inD_ok {a c : D} {xs : List D} {q : Bool → Prop} (ec : c.its = some xs) (ra : RelS W Z G H x a) (rc : RelS W Z G H y c) (h : (inD a xs).wp q) :
    (∃ d ds, Dp W.K H x d ∧ Dp W.K H y (.list ds) ∧ SeqAt.shaped d = true ∧ SeqAt.shaped (.list ds) = true ∧ q (ds.any fun z => PyData.eqv z d)) ∨
    (∃ d ds, Dp W.K H x d ∧ Dp W.K H y (.tuple ds) ∧ SeqAt.shaped d = true ∧ SeqAt.shaped (.list ds) = true ∧ q (ds.any fun z => PyData.eqv z d)) := by
  unfold inD at h
  obtain ⟨hs, h⟩ := wp_if h
  rw [Bool.and_eq_true] at hs
  obtain ⟨p, vs, rfl, h1, r1⟩ := rc.its ec
  have r2 : DpAll W.K H vs (xs.map D.toP) := dps r1 (SeqAt.canLay_of_shaped hs.2)
  have h' : q ((xs.map D.toP).any fun z => PyData.eqv z a.toP) := by rw [any_map]; exact h
  rcases h1 with h1 | h1
  · exact .inl ⟨_, _, ra.dp hs.1, .lst (.of h1) r2, hs.1, hs.2, h'⟩
  · exact .inr ⟨_, _, ra.dp hs.1, .tup (.of h1) r2, hs.1, hs.2, h'⟩
theorem none_iff {a : D} (ra : RelS W Z G H x a) : decide (x = .non) = isNon a := by
  cases a with
  | cell xs => obtain ⟨p, vs, rfl, _⟩ := ra; rfl
  | _ => cases ra <;> rfl
theorem ltD_ok (gi : GInv W G H) {a c : D} (ra : RelS W Z G H x a) (rc : RelS W Z G H y c) (h : (ltD a c).wp (KF b W Z G H Q)) : rLtD W.K x y H Q := by
  unfold ltD at h
  split at h
  · obtain rfl := ra.int
    obtain rfl := rc.int
    exact .inl ⟨_, _, rfl, rfl, KF.at gi (Rel.bl _).s (fun _ z => nomatch z) h⟩
  · rename_i xs ys
    obtain ⟨p, vs, rfl, h1, r1⟩ := ra.tup
    obtain ⟨q, ws, rfl, h2, r2⟩ := rc.tup
    cases e1 : ints? xs with
    | none => rw [e1] at h; exact h.elim
    | some ns =>
      cases e2 : ints? ys with
      | none => rw [e1, e2] at h; exact h.elim
      | some ms =>
        rw [e1, e2] at h
        rw [ints_map e1] at r1
        rw [ints_map e2] at r2
        rw [r1.ints] at h1
        rw [r2.ints] at h2
        refine .inr ⟨p, q, ns, ms, rfl, rfl, .of h1, .of h2, ?_⟩
        rw [← lexI_eq]
        exact KF.at gi (Rel.bl _).s (fun _ z => nomatch z) h
  · exact h.elim
theorem op_ok (gi : GInv W G H) (zo : ZOk Z G H) {o : O2} {a c : D} (ra : RelS W Z G H x a) (rc : RelS W Z G H y c) (h : (op2 o a c).wp (KF b W Z G H Q)) : rO W.K o x y H Q := by
  have fin : ∀ {k : Bool}, KF b W Z G H Q (.bl k) → Q (.bl k) H := fun {k} h => KF.at gi (Rel.bl k).s (fun _ z => nomatch z) h
  have fi : ∀ {k : Int}, KF b W Z G H Q (.int k) → Q (.int k) H := fun {k} h => KF.at gi (Rel.int k).s (fun _ z => nomatch z) h
  cases o with
  | add => exact add_ok gi zo ra rc h
  | mul => exact mul_ok gi zo ra rc h
  | sub =>
    unfold op2 at h
    split at h <;> first
      | exact h.elim
      | (rename_i e; cases e)
      | skip
    obtain rfl := ra.int
    obtain rfl := rc.int
    exact ⟨_, _, rfl, rfl, fi h⟩
  | mod =>
    cases a with
    | int i =>
      cases c with
      | int j =>
        obtain ⟨hl, h⟩ := wp_if (show (if 0 < j then T.ret (D.int (i % j)) else T.bad).wp _ from h)
        obtain rfl := ra.int
        obtain rfl := rc.int
        exact ⟨_, _, rfl, rfl, hl, fi h⟩
      | _ => exact h.elim
    | _ => exact h.elim
  | fdiv =>
    cases a with
    | int i =>
      cases c with
      | int j =>
        obtain ⟨hl, h⟩ := wp_if (show (if 0 < j ∧ j < 1073741824 then T.ret (D.int (i / j)) else T.bad).wp _ from h)
        obtain rfl := ra.int
        obtain rfl := rc.int
        exact ⟨_, _, rfl, rfl, hl, fi h⟩
      | _ => exact h.elim
    | _ => exact h.elim
  | pow =>
    cases a with
    | int i =>
      cases c with
      | int j =>
        obtain ⟨hl, h⟩ := wp_if (show (if 0 ≤ j ∧ j ≤ 1000 ∧ i.natAbs < 2 ^ 64 then T.ret (D.int (i ^ j.toNat)) else T.bad).wp _ from h)
        obtain rfl := ra.int
        obtain rfl := rc.int
        exact ⟨_, _, rfl, rfl, ⟨hl.1, by omega, hl.2.2⟩, fi h⟩
      | _ => exact h.elim
    | _ => exact h.elim
  | eq =>
    have h' := T.wp_bind.mp (show (eqD a c >>= fun c => T.ret (D.bl c)).wp _ from h)
    obtain ⟨d, e, h1, h2, h3, h4, h5⟩ := eqD_ok ra rc h'
    exact ⟨d, e, h1, h2, h3, h4, fin h5⟩
  | ne =>
    have h' := T.wp_bind.mp (show (eqD a c >>= fun c => T.ret (D.bl (!c))).wp _ from h)
    obtain ⟨d, e, h1, h2, h3, h4, h5⟩ := eqD_ok ra rc h'
    exact ⟨d, e, h1, h2, h3, h4, fin h5⟩
  | lt =>
    exact ltD_ok gi ra rc h
  | le =>
    cases a with
    | int i =>
      cases c with
      | int j =>
        obtain rfl := ra.int
        obtain rfl := rc.int
        exact ⟨_, _, rfl, rfl, fin h⟩
      | _ => exact h.elim
    | _ => exact h.elim
  | gt =>
    cases a with
    | int i =>
      cases c with
      | int j =>
        obtain rfl := ra.int
        obtain rfl := rc.int
        exact ⟨_, _, rfl, rfl, fin h⟩
      | _ => exact h.elim
    | _ => exact h.elim
  | ge =>
    cases a with
    | int i =>
      cases c with
      | int j =>
        obtain rfl := ra.int
        obtain rfl := rc.int
        exact ⟨_, _, rfl, rfl, fin h⟩
      | _ => exact h.elim
    | _ => exact h.elim
  | isin =>
    have h2 : (match c.its with
      | some xs => (do let c ← inD a xs; T.ret (D.bl (c)))
      | none => T.bad).wp (KF b W Z G H Q) := h
    cases ec : c.its with
    | none =>
      rw [ec] at h2
      exact h2.elim
    | some xs =>
      rw [ec] at h2
      have h' := T.wp_bind.mp h2
      rcases inD_ok ec ra rc h' with ⟨d, e, h1, h2, h3, h4, h5⟩ | ⟨d, e, h1, h2, h3, h4, h5⟩
      · exact .inl ⟨d, e, h1, h2, h3, h4, fin h5⟩
      · exact .inr ⟨d, e, h1, h2, h3, h4, fin h5⟩
  | notin =>
    have h2 : (match c.its with
      | some xs => (do let c ← inD a xs; T.ret (D.bl (!c)))
      | none => T.bad).wp (KF b W Z G H Q) := h
    cases ec : c.its with
    | none =>
      rw [ec] at h2
      exact h2.elim
    | some xs =>
      rw [ec] at h2
      have h' := T.wp_bind.mp h2
      rcases inD_ok ec ra rc h' with ⟨d, e, h1, h2, h3, h4, h5⟩ | ⟨d, e, h1, h2, h3, h4, h5⟩
      · exact .inl ⟨d, e, h1, h2, h3, h4, fin h5⟩
      · exact .inr ⟨d, e, h1, h2, h3, h4, fin h5⟩
  | is_ =>
    cases c with
    | non =>
      cases rc
      refine .inl ⟨rfl, ?_⟩
      rw [none_iff ra]
      cases a <;> exact fin h
    | bl b =>
      cases a with
      | bl k =>
        rw [ra.bl, rc.bl]
        exact .inr ⟨k, b, rfl, rfl, fin h⟩
      | _ => exact h.elim
    | _ => cases a <;> exact h.elim
  | isnot =>
    cases c with
    | non =>
      cases rc
      refine .inl ⟨rfl, ?_⟩
      rw [none_iff ra]
      cases a <;> exact fin h
    | bl b =>
      cases a with
      | bl k =>
        rw [ra.bl, rc.bl]
        exact .inr ⟨k, b, rfl, rfl, fin h⟩
      | _ => exact h.elim
    | _ => cases a <;> exact h.elim
end
end Fm

/-! FmS: sorted of ints, of tuples of ints, of tuples of such. -/
namespace Fm
open PySem PySem.Spec PyProof.Rows L2
/-! ### the order -/
theorem icmp_swap (a b : Int) : compare b a = (compare a b).swap := by
  rw [Int.compare_swap]
theorem rcmp (a b : Nat) : compare b a = (compare a b).swap := by rw [Nat.compare_swap]
mutual
theorem cmp_swap : ∀ a b : D, D.cmp b a = (D.cmp a b).swap
  | .int a, b => by cases b <;> first | exact icmp_swap _ _ | exact rcmp _ _
  | .tup xs, b => by cases b <;> first | exact cmps_swap xs _ | exact rcmp _ _
  | .non, b => by cases b <;> exact rcmp _ _
  | .bl _, b => by cases b <;> exact rcmp _ _
  | .str _, b => by cases b <;> exact rcmp _ _
  | .lst _, b => by cases b <;> exact rcmp _ _
  | .cell _, b => by cases b <;> exact rcmp _ _
  | .crowd _ _ _, b => by cases b <;> exact rcmp _ _
  | .hand, b => by cases b <;> exact rcmp _ _
  | .scr _, b => by cases b <;> exact rcmp _ _
  | .tape _, b => by cases b <;> exact rcmp _ _
  | .emp, b => by cases b <;> exact rcmp _ _
theorem cmps_swap : ∀ a b : List D, D.cmps b a = (D.cmps a b).swap
  | [], [] => rfl
  | [], _ :: _ => rfl
  | _ :: _, [] => rfl
  | x :: xs, y :: ys => by
    show (D.cmp y x).then (D.cmps ys xs) = ((D.cmp x y).then (D.cmps xs ys)).swap
    rw [cmp_swap x y, cmps_swap xs ys, Ordering.swap_then]
end
/-- below or equal goes on -/
theorem ole_i {a b c : Int} (h1 : compare a b ≠ .gt) (h2 : compare b c ≠ .gt) : compare a c ≠ .gt ∧ (compare a c = .eq → compare a b = .eq ∧ compare b c = .eq) := by
  simp only [ne_eq, Int.compare_eq_gt, Int.compare_eq_eq] at *
  omega
theorem ole_n {a b c : Nat} (h1 : compare a b ≠ .gt) (h2 : compare b c ≠ .gt) : compare a c ≠ .gt ∧ (compare a c = .eq → compare a b = .eq ∧ compare b c = .eq) := by
  simp only [ne_eq, Nat.compare_eq_gt, Nat.compare_eq_eq] at *
  omega
theorem cmp_rank {a b : D} (h : a.rank ≠ b.rank) : D.cmp a b = compare a.rank b.rank := by
  cases a <;> cases b <;> first | rfl | exact absurd rfl h
theorem cmp_two {a b : D} (h : a.rank = 2) : D.cmp a b = compare a.rank b.rank := by
  cases a <;> first | (cases b <;> rfl) | cases h
theorem lt_ok {o : Ordering} {P : Prop} (h : o = .lt) : o ≠ .gt ∧ (o = .eq → P) := by
  subst h
  exact ⟨(fun e => nomatch e), (fun e => nomatch e)⟩
mutual
theorem cmp_trans : ∀ a b c : D, D.cmp a b ≠ .gt → D.cmp b c ≠ .gt → D.cmp a c ≠ .gt ∧ (D.cmp a c = .eq → D.cmp a b = .eq ∧ D.cmp b c = .eq)
  | .int a, b, c => fun h1 h2 => by
    cases b with
    | int b =>
      cases c with
      | int c => exact ole_i h1 h2
      | _ => exact lt_ok rfl
    | _ => cases c <;> first
      | exact absurd (show D.cmp _ _ = .gt from rfl) h2
      | exact lt_ok rfl
  | .tup xs, b, c => fun h1 h2 => by
    cases b with
    | int b => exact absurd (show D.cmp _ _ = .gt from rfl) h1
    | tup ys =>
      cases c with
      | tup zs => exact cmps_trans xs ys zs h1 h2
      | int _ => exact absurd (show D.cmp _ _ = .gt from rfl) h2
      | _ => exact lt_ok rfl
    | _ => cases c <;> first
      | exact absurd (show D.cmp _ _ = .gt from rfl) h2
      | exact lt_ok rfl
  | .non, b, c => two_trans rfl
  | .bl _, b, c => two_trans rfl
  | .str _, b, c => two_trans rfl
  | .lst _, b, c => two_trans rfl
  | .cell _, b, c => two_trans rfl
  | .crowd _ _ _, b, c => two_trans rfl
  | .hand, b, c => two_trans rfl
  | .scr _, b, c => two_trans rfl
  | .tape _, b, c => two_trans rfl
  | .emp, b, c => two_trans rfl
theorem two_trans : ∀ {a b c : D}, a.rank = 2 → D.cmp a b ≠ .gt → D.cmp b c ≠ .gt → D.cmp a c ≠ .gt ∧ (D.cmp a c = .eq → D.cmp a b = .eq ∧ D.cmp b c = .eq) := fun {a b c} h h1 h2 => by
  have e1 := cmp_two (b := b) h
  have e2 := cmp_two (b := c) h
  rw [e1] at h1
  have hb : b.rank = 2 := by
    rw [h] at h1
    cases b <;> first | rfl | exact absurd rfl h1
  have e3 := cmp_two (b := c) hb
  rw [e3] at h2
  rw [e1, e2, e3]
  exact ole_n h1 h2
theorem cmps_trans : ∀ a b c : List D, D.cmps a b ≠ .gt → D.cmps b c ≠ .gt → D.cmps a c ≠ .gt ∧ (D.cmps a c = .eq → D.cmps a b = .eq ∧ D.cmps b c = .eq)
  | [], [], [], _, _ => ⟨by decide, fun _ => ⟨rfl, rfl⟩⟩
  | [], [], _ :: _, _, _ => lt_ok rfl
  | [], _ :: _, [], _, h => absurd rfl h
  | [], _ :: _, _ :: _, _, _ => lt_ok rfl
  | _ :: _, [], _, h, _ => absurd rfl h
  | _ :: _, _ :: _, [], _, h => absurd rfl h
  | x :: xs, y :: ys, z :: zs, h1, h2 => by
    have h1' : (D.cmp x y).then (D.cmps xs ys) ≠ .gt := h1
    have h2' : (D.cmp y z).then (D.cmps ys zs) ≠ .gt := h2
    show (D.cmp x z).then (D.cmps xs zs) ≠ .gt ∧ ((D.cmp x z).then (D.cmps xs zs) = .eq → (D.cmp x y).then (D.cmps xs ys) = .eq ∧ (D.cmp y z).then (D.cmps ys zs) = .eq)
    have p1 : D.cmp x y ≠ .gt := fun e => by rw [e] at h1'; exact h1' rfl
    have p2 : D.cmp y z ≠ .gt := fun e => by rw [e] at h2'; exact h2' rfl
    obtain ⟨q1, q2⟩ := cmp_trans x y z p1 p2
    cases e : D.cmp x z with
    | gt => exact absurd e q1
    | lt => exact lt_ok rfl
    | eq =>
      obtain ⟨e1, e2⟩ := q2 e
      rw [e1] at h1' ⊢
      rw [e2] at h2' ⊢
      exact cmps_trans xs ys zs h1' h2'
end
theorem le_trans {a b c : D} (h1 : D.le a b = true) (h2 : D.le b c = true) : D.le a c = true := by
  simp only [D.le, bne_iff_ne] at *
  exact (cmp_trans a b c h1 h2).1
theorem le_total (a b : D) : D.le a b = true ∨ D.le b a = true := by
  simp only [D.le, bne_iff_ne]
  rw [cmp_swap a b]
  cases D.cmp a b <;> simp
/-- equal only if the same -/
theorem cmp_eq : ∀ (n : Nat) (a b : D), a.keyd n = true → b.keyd n = true → (D.cmp a b = .eq ↔ a = b)
  | 0, a, b, h, _ => by cases h
  | n + 1, a, b, h1, h2 => by
    have lists : ∀ xs ys : List D, xs.all (D.keyd n) = true → ys.all (D.keyd n) = true → (D.cmps xs ys = .eq ↔ xs = ys) := by
      intro xs
      induction xs with
      | nil => intro ys _ _; cases ys <;> simp [D.cmps]
      | cons x xs ih =>
        intro ys h1 h2
        cases ys with
        | nil => simp [D.cmps]
        | cons y ys =>
          rw [List.all_cons, Bool.and_eq_true] at h1 h2
          have q1 := cmp_eq n x y h1.1 h2.1
          have q2 := ih ys h1.2 h2.2
          show (D.cmp x y).then (D.cmps xs ys) = .eq ↔ _
          rw [List.cons.injEq, ← q1, ← q2]
          cases D.cmp x y <;> simp [Ordering.then]
    cases a with
    | int i =>
      cases b with
      | int j =>
        show compare i j = .eq ↔ _
        rw [Int.compare_eq_eq]
        simp
      | tup ys => exact ⟨(fun h => Ordering.noConfusion (show Ordering.lt = .eq from h)), (fun h => D.noConfusion h)⟩
      | _ => cases h2
    | tup xs =>
      cases b with
      | int j => exact ⟨(fun h => Ordering.noConfusion (show Ordering.gt = .eq from h)), (fun h => D.noConfusion h)⟩
      | tup ys =>
        have q := lists xs ys h1 h2
        show D.cmps xs ys = .eq ↔ _
        rw [q]
        simp
      | _ => cases h2
    | _ => cases h1
theorem eqv_cmp : ∀ (n : Nat) (a b : D), a.keyd n = true → b.keyd n = true → PyData.eqv a.toP b.toP = (D.cmp a b == .eq)
  | 0, a, b, h, _ => by cases h
  | n + 1, a, b, h1, h2 => by
    have lists : ∀ xs ys : List D, xs.all (D.keyd n) = true → ys.all (D.keyd n) = true → PyData.eqvAll (D.toPs xs) (D.toPs ys) = (D.cmps xs ys == .eq) := by
      intro xs
      induction xs with
      | nil => intro ys _ _; cases ys <;> rfl
      | cons x xs ih =>
        intro ys h1 h2
        cases ys with
        | nil => rfl
        | cons y ys =>
          rw [List.all_cons, Bool.and_eq_true] at h1 h2
          have q1 := eqv_cmp n x y h1.1 h2.1
          have q2 := ih ys h1.2 h2.2
          show (PyData.eqv x.toP y.toP && PyData.eqvAll (D.toPs xs) (D.toPs ys)) = ((D.cmp x y).then (D.cmps xs ys) == .eq)
          rw [q1, q2]
          cases D.cmp x y <;> rfl
    cases a with
    | int i =>
      cases b with
      | int j =>
        show (i == j) = (compare i j == .eq)
        rw [Bool.eq_iff_iff, beq_iff_eq, beq_iff_eq, Int.compare_eq_eq]
      | tup ys => rfl
      | _ => cases h2
    | tup xs =>
      cases b with
      | int j => rfl
      | tup ys => exact lists xs ys h1 h2
      | _ => cases h2
    | _ => cases h1
/-! ### the machine's keys -/
mutual
inductive KeyAt (h : Heap) : Value → D → Prop
  | int (i : Int) (t : Tok) : KeyAt h (.int i t) (.int i)
  | tup {a : Addr} {its : List Value} {ds : List D} : h.IsTuple a its.toArray → KeyAts h its ds → KeyAt h (.ref a) (.tup ds)
inductive KeyAts (h : Heap) : List Value → List D → Prop
  | nil : KeyAts h [] []
  | cons {u : Value} {us : List Value} {d : D} {ds : List D} : KeyAt h u d → KeyAts h us ds → KeyAts h (u :: us) (d :: ds)
end
theorem isTuple_inj {h : Heap} {a : Addr} {xs ys : Array Value} (p : h.IsTuple a xs) (q : h.IsTuple a ys) : xs = ys := by
  obtain ⟨o, e, _, n, d⟩ := p
  obtain ⟨o', e', _, n', d'⟩ := q
  rw [e] at e'
  cases e'
  rw [d] at d'
  cases d'
  rfl
section
variable {h h' : Heap}
mutual
theorem KeyAt.uniq : ∀ {u : Value} {d d' : D}, KeyAt h u d → KeyAt h u d' → d = d'
  | _, _, _, .int i t, .int _ _ => rfl
  | _, _, _, .tup p r, q => by
    cases q with
    | tup p' r' =>
      have e := congrArg Array.toList (isTuple_inj p p')
      simp only [List.toList_toArray] at e
      subst e
      rw [KeyAts.uniq r r']
theorem KeyAts.uniq : ∀ {us : List Value} {ds ds' : List D}, KeyAts h us ds → KeyAts h us ds' → ds = ds'
  | _, _, _, .nil, .nil => rfl
  | _, _, _, .cons r t, .cons r' t' => by rw [KeyAt.uniq r r', KeyAts.uniq t t']
end
mutual
theorem KeyAt.keeps (k : ∀ b o, h.get? b = some o → o.cls = .type "tuple" → h'.get? b = some o) : ∀ {u : Value} {d : D}, KeyAt h u d → KeyAt h' u d
  | _, _, .int i t => .int i t
  | _, _, .tup p r => .tup (let ⟨o, e, c, z⟩ := p; ⟨o, k _ _ e c, c, z⟩) (KeyAts.keeps k r)
theorem KeyAts.keeps (k : ∀ b o, h.get? b = some o → o.cls = .type "tuple" → h'.get? b = some o) : ∀ {us : List Value} {ds : List D}, KeyAts h us ds → KeyAts h' us ds
  | _, _, .nil => .nil
  | _, _, .cons r t => .cons (KeyAt.keeps k r) (KeyAts.keeps k t)
end
mutual
theorem KeyAt.reads : ∀ {u : Value} {d : D}, KeyAt h u d → ∃ as, Reads h u d.toP as
  | _, _, .int i t => ⟨_, Reads.int i t⟩
  | _, _, .tup p r => by
    obtain ⟨o, e, c, n, z⟩ := p
    obtain ⟨as, q⟩ := KeyAts.reads r
    exact ⟨_, Reads.tuple e c z q⟩
theorem KeyAts.reads : ∀ {us : List Value} {ds : List D}, KeyAts h us ds → ∃ as, ReadsAll h us (D.toPs ds) as
  | _, _, .nil => ⟨_, ReadsAll.nil⟩
  | _, _, .cons r t => by
    obtain ⟨as, q1⟩ := KeyAt.reads r
    obtain ⟨bs, q2⟩ := KeyAts.reads t
    exact ⟨_, ReadsAll.cons q1 q2⟩
end
theorem KeyAts.length : ∀ {us : List Value} {ds : List D}, KeyAts h us ds → us.length = ds.length
  | _, _, .nil => rfl
  | _, _, .cons r t => by rw [List.length_cons, List.length_cons, KeyAts.length t]
theorem KeyAts.get : ∀ {us : List Value} {ds : List D} {i : Nat} (h1 : i < us.length) (h2 : i < ds.length), KeyAts h us ds → KeyAt h us[i] ds[i]
  | _, _, 0, _, _, .cons r t => r
  | _, _, i + 1, h1, h2, .cons r t => KeyAts.get (i := i) (Nat.lt_of_succ_lt_succ h1) (Nat.lt_of_succ_lt_succ h2) t
theorem keyd_lay : ∀ (n : Nat) (d : D), d.keyd n = true → PyData.canLay0 d.toP = true ∧ d.toP.depth ≤ n
  | 0, d, h => by cases h
  | n + 1, d, h => by
    have lists : ∀ xs : List D, xs.all (D.keyd n) = true → PyData.canLayAll0 (D.toPs xs) = true ∧ PyData.depthAll (D.toPs xs) ≤ n := by
      intro xs
      induction xs with
      | nil => intro _; exact ⟨rfl, Nat.zero_le _⟩
      | cons x xs ih =>
        intro h
        rw [List.all_cons, Bool.and_eq_true] at h
        obtain ⟨a1, a2⟩ := keyd_lay n x h.1
        obtain ⟨b1, b2⟩ := ih h.2
        refine ⟨?_, ?_⟩
        · show (PyData.canLay0 x.toP && PyData.canLayAll0 (D.toPs xs)) = true
          rw [a1, b1]
          rfl
        · show max (PyData.depth x.toP) (PyData.depthAll (D.toPs xs)) ≤ n
          exact Nat.max_le.mpr ⟨a2, b2⟩
    cases d with
    | int i => exact ⟨rfl, Nat.zero_le _⟩
    | tup xs =>
      obtain ⟨a, b⟩ := lists xs h
      exact ⟨a, by show PyData.depthAll (D.toPs xs) + 1 ≤ n + 1; omega⟩
    | _ => cases h
end
section
variable {A : Around} {s : Shared}
theorem key_eqAt {n : Nat} {u u' : Value} {d d' : D} (k : KeyAt s.heap u d) (k' : KeyAt s.heap u' d') (h1 : d.keyd n = true) (h2 : d'.keyd n = true) (hu : A.units + n < cLine) : SeqAt.EqAt A s u u' (D.cmp d d' == .eq) := by
  obtain ⟨as, r⟩ := k.reads
  obtain ⟨bs, r'⟩ := k'.reads
  obtain ⟨l1, l2⟩ := keyd_lay n d h1
  obtain ⟨m1, m2⟩ := keyd_lay n d' h2
  rw [← eqv_cmp n d d' h1 h2]
  refine SeqAt.eqAt_reads _ _ A s u u' as bs r r' l1 m1 ?_
  have := Nat.min_le_left d.toP.depth d'.toP.depth
  omega
theorem lex_cmps (e r : Nat → Bool) : ∀ (xs ys : List D) (i : Nat), (∀ j x y, xs[j]? = some x → ys[j]? = some y → e (i + j) = (D.cmp x y == .eq)) →
    (∀ j x y, xs[j]? = some x → ys[j]? = some y → e (i + j) = false → r (i + j) = (D.cmp x y == .lt)) →
    Ob.lexAt e r (decide (xs.length < ys.length)) i (min xs.length ys.length) = (D.cmps xs ys == .lt) := by
  intro xs
  induction xs with
  | nil =>
    intro ys i _ _
    rw [List.length_nil, Nat.zero_min, Ob.lexAt_zero]
    cases ys <;> rfl
  | cons x xs ih =>
    intro ys i he hr
    cases ys with
    | nil =>
      rw [List.length_nil, Nat.min_zero, Ob.lexAt_zero]
      rfl
    | cons y ys =>
      rw [List.length_cons, List.length_cons, Nat.succ_min_succ, Ob.lexAt_succ]
      have h0 := he 0 x y rfl rfl
      rw [Nat.add_zero] at h0
      have hd : decide (xs.length + 1 < ys.length + 1) = decide (xs.length < ys.length) := by
        rw [Bool.eq_iff_iff, decide_eq_true_eq, decide_eq_true_eq]
        omega
      have q := ih ys (i + 1) (fun j x y h1 h2 => by rw [show i + 1 + j = i + (j + 1) by omega]; exact he (j + 1) x y h1 h2) (fun j x y h1 h2 => by rw [show i + 1 + j = i + (j + 1) by omega]; exact hr (j + 1) x y h1 h2)
      show _ = ((D.cmp x y).then (D.cmps xs ys) == .lt)
      cases hc : D.cmp x y with
      | eq =>
        rw [hc] at h0
        have h0' : e i = true := h0.trans (by rfl)
        rw [if_pos h0', hd, q]
        rfl
      | lt =>
        rw [hc] at h0
        have h1 := hr 0 x y rfl rfl
        rw [Nat.add_zero, hc] at h1
        rw [if_neg (by rw [h0]; decide), h1 h0]
        rfl
      | gt =>
        rw [hc] at h0
        have h1 := hr 0 x y rfl rfl
        rw [Nat.add_zero, hc] at h1
        rw [if_neg (by rw [h0]; decide), h1 h0]
        rfl
def eqJ (ds ds' : List D) (j : Nat) : Bool := match ds[j]?, ds'[j]? with
  | some x, some y => D.cmp x y == Ordering.eq
  | _, _ => true
def ltJ (ds ds' : List D) (j : Nat) : Bool := match ds[j]?, ds'[j]? with
  | some x, some y => D.cmp x y == Ordering.lt
  | _, _ => true
theorem cpb_at {n : Nat} {xs ys : List D} (h : ((xs.zip ys).all fun p => D.cpb n p.1 p.2) = true) {j : Nat} {x y : D} (h1 : xs[j]? = some x) (h2 : ys[j]? = some y) : D.cpb n x y = true := by
  have hm : (x, y) ∈ xs.zip ys := by
    refine List.mem_of_getElem? (i := j) ?_
    rw [List.getElem?_zip_eq_some]
    exact ⟨h1, h2⟩
  exact List.all_eq_true.mp h _ hm
theorem key_lt : ∀ (n : Nat) {A : Around} {u u' : Value} {d d' : D}, KeyAt s.heap u d → KeyAt s.heap u' d' → d.keyd n = true → d'.keyd n = true → D.cpb n d d' = true → A.units + n < cLine → Ob.RcOp .Lt A s u u' (D.cmp d d' == .lt)
  | 0, _, _, _, d, _, _, _, h, _, _, _ => by cases h
  | n + 1, A, u, u', d, d', k, k', h1, h2, hc, hu => by
    cases k with
    | int i t =>
      cases k' with
      | int j t' =>
        have e : (D.cmp (.int i) (.int j) == .lt) = decide (i < j) := by
          show (compare i j == .lt) = _
          rw [Bool.eq_iff_iff, beq_iff_eq, decide_eq_true_eq, Int.compare_eq_lt]
        rw [e]
        exact Ob.RcOp.lt_int i j t t'
      | tup p r => cases hc
    | @tup a its ds p r =>
      cases k' with
      | int j t' => cases hc
      | @tup b its' ds' p' r' =>
        have l1 := r.length
        have l2 := r'.length
        have g1 : ∀ j (hj : j < its.length), KeyAt s.heap its[j] (ds[j]'(by omega)) := fun j hj => KeyAts.get hj (by omega) r
        have g2 : ∀ j (hj : j < its'.length), KeyAt s.heap its'[j] (ds'[j]'(by omega)) := fun j hj => KeyAts.get hj (by omega) r'
        have hk1 : ds.all (D.keyd n) = true := h1
        have hk2 : ds'.all (D.keyd n) = true := h2
        have f1 : ∀ j (hj : j < ds.length), (ds[j]).keyd n = true := fun j hj => List.all_eq_true.mp hk1 _ (List.getElem_mem hj)
        have f2 : ∀ j (hj : j < ds'.length), (ds'[j]).keyd n = true := fun j hj => List.all_eq_true.mp hk2 _ (List.getElem_mem hj)
        have hc' : ((ds.zip ds').all fun p => D.cpb n p.1 p.2) = true := hc
        have q := Ob.RcOp.tuples_lt (A := A) (e := fun j => (eqJ ds ds' j)) (r := fun j => (ltJ ds ds' j)) p p' (by omega)
          (fun j a1 a2 => ?_) (fun j a1 a2 _ => ?_)
        · have e := lex_cmps (fun j => (eqJ ds ds' j)) (fun j => (ltJ ds ds' j)) ds ds' 0
            (fun j x y b1 b2 => by rw [Nat.zero_add]; unfold eqJ; rw [b1, b2])
            (fun j x y b1 b2 _ => by rw [Nat.zero_add]; unfold ltJ; rw [b1, b2])
          rw [List.size_toArray, List.size_toArray, l1, l2, e] at q
          exact q
        · have b1 : j < its.length := by simpa using a1
          have b2 : j < its'.length := by simpa using a2
          have c1 : ds[j]? = some (ds[j]'(by omega)) := List.getElem?_eq_getElem (by omega)
          have c2 : ds'[j]? = some (ds'[j]'(by omega)) := List.getElem?_eq_getElem (by omega)
          show SeqAt.EqAt A.in1 s its.toArray[j] its'.toArray[j] (eqJ ds ds' j)
          unfold eqJ
          rw [c1, c2]
          have z := key_eqAt (A := A.in1) (n := n) (g1 j b1) (g2 j b2) (f1 j (by omega)) (f2 j (by omega)) (by show A.units + 1 + n < cLine; omega)
          simpa using z
        · have b1 : j < its.length := by simpa using a1
          have b2 : j < its'.length := by simpa using a2
          have c1 : ds[j]? = some (ds[j]'(by omega)) := List.getElem?_eq_getElem (by omega)
          have c2 : ds'[j]? = some (ds'[j]'(by omega)) := List.getElem?_eq_getElem (by omega)
          show Ob.RcOp .Lt A.in1 s its.toArray[j] its'.toArray[j] (ltJ ds ds' j)
          unfold ltJ
          rw [c1, c2]
          have z := key_lt n (A := A.in1) (g1 j b1) (g2 j b2) (f1 j (by omega)) (f2 j (by omega)) (cpb_at hc' c1 c2) (by show A.units + 1 + n < cLine; omega)
          simpa using z
end
end Fm

namespace Fm
open PySem PySem.Spec PyProof.Rows L2
section
variable {prog : Program} {w : World} {A : Around} {s : Shared} {E' : Value → Shared → Prop}
open Ob in
/-- tuple.__lt__ called by the sort -/
theorem call_lt_tuples {l b : Addr} {items items2 : Array Value} {e r : Nat → Bool} {Q : Value → Shared → Prop} (hl : s.heap.IsTuple l items) (hb : s.heap.IsTuple b items2)
    (he : ∀ j (h1 : j < items.size) (h2 : j < items2.size), SeqAt.EqAt A.in1 s items[j] items2[j] (e j))
    (hr : ∀ j (h1 : j < items.size) (h2 : j < items2.size), e j = false → RcOp .Lt A.in1 s items[j] items2[j] (r j))
    (h : Q (.bool (lexAt e r (decide (items.size < items2.size)) 0 (min items.size items2.size))) s) : wpAny (model prog w) A (call (.builtin "tuple.__lt__") [.ref l, .ref b]) Q E' s := by
  obtain ⟨⟨cls, dd, data, sl⟩, ho, hc, n, hd⟩ := id hl
  obtain ⟨⟨cls2, dd2, data2, sl2⟩, ho2, hc2, n2, hd2⟩ := id hb
  simp only at hc hd hc2 hd2
  subst hc hd hc2 hd2
  exact call_meets F.slot_tuple_lt ⟨_, ho, rfl⟩ F.entry_tuple_lt (F.args_tuple_lt_2 _ _) (tuple_ltAt l b items items2 n n2 dd dd2 sl sl2 e r) ⟨ho, ho2, he, hr, h⟩
theorem one_tup {n : Nat} {a b : Addr} {xs ys : List D} {Q : Bool → Shared → Prop} (k : KeyAt s.heap (.ref a) (.tup xs)) (k' : KeyAt s.heap (.ref b) (.tup ys)) (h1 : xs.all (D.keyd n) = true) (h2 : ys.all (D.keyd n) = true)
    (hc : ((xs.zip ys).all fun p => D.cpb n p.1 p.2) = true) (hu : A.units + n + 1 < cLine) (h : Q (D.cmps xs ys == .lt) s) : wpAny (model prog w) A (oneLt' true (.ref a) (.ref b)) Q E' s := by
  obtain ⟨its, p, r⟩ : ∃ its, s.heap.IsTuple a its.toArray ∧ KeyAts s.heap its xs := by
    cases k with
    | tup p r => exact ⟨_, p, r⟩
  obtain ⟨its', p', r'⟩ : ∃ its, s.heap.IsTuple b its.toArray ∧ KeyAts s.heap its ys := by
    cases k' with
    | tup p r => exact ⟨_, p, r⟩
  have l1 := r.length
  have l2 := r'.length
  rw [oneLt'_eq]
  simp only [if_true]
  refine wpAny_bind (wpAny_cRoomFor (by omega) ?_)
  refine wpAny_bind (wpAny_callSpecialIfBound?_slot (let ⟨o, e, c, _⟩ := p; ⟨o, e, c⟩) F.slot_tuple_lt ?_)
  refine call_lt_tuples (e := eqJ xs ys) (r := ltJ xs ys) p p' (fun j a1 a2 => ?_) (fun j a1 a2 _ => ?_) ?_
  · have b1 : j < its.length := by simpa using a1
    have b2 : j < its'.length := by simpa using a2
    have c1 : xs[j]? = some (xs[j]'(by omega)) := List.getElem?_eq_getElem (by omega)
    have c2 : ys[j]? = some (ys[j]'(by omega)) := List.getElem?_eq_getElem (by omega)
    unfold eqJ
    rw [c1, c2]
    have z := key_eqAt (A := A.in1) (n := n) (KeyAts.get b1 (by omega) r) (KeyAts.get b2 (by omega) r') (List.all_eq_true.mp h1 _ (List.getElem_mem _)) (List.all_eq_true.mp h2 _ (List.getElem_mem _)) (by show A.units + 1 + n < cLine; omega)
    simpa using z
  · have b1 : j < its.length := by simpa using a1
    have b2 : j < its'.length := by simpa using a2
    have c1 : xs[j]? = some (xs[j]'(by omega)) := List.getElem?_eq_getElem (by omega)
    have c2 : ys[j]? = some (ys[j]'(by omega)) := List.getElem?_eq_getElem (by omega)
    unfold ltJ
    rw [c1, c2]
    have z := key_lt n (A := A.in1) (KeyAts.get b1 (by omega) r) (KeyAts.get b2 (by omega) r') (List.all_eq_true.mp h1 _ (List.getElem_mem _)) (List.all_eq_true.mp h2 _ (List.getElem_mem _)) (cpb_at hc c1 c2) (by show A.units + 1 + n < cLine; omega)
    simpa using z
  · have e := lex_cmps (eqJ xs ys) (ltJ xs ys) xs ys 0 (fun j x y b1 b2 => by rw [Nat.zero_add]; unfold eqJ; rw [b1, b2]) (fun j x y b1 b2 _ => by rw [Nat.zero_add]; unfold ltJ; rw [b1, b2])
    rw [List.size_toArray, List.size_toArray, l1, l2, e]
    exact wpAny_truthy_bool h
/-- the sort's own going along two tuples -/
theorem kat_key {n : Nat} {b : Bool} {Q : Bool → Shared → Prop} (hu : A.units + n < cLine) : ∀ {xs ys : List D} {us ws : List Value} {i : Nat}, KeyAts s.heap us xs → KeyAts s.heap ws ys → xs.all (D.keyd n) = true → ys.all (D.keyd n) = true →
    ((xs.zip ys).all fun p => D.cpb n p.1 p.2) = true → (b = true → i = 0 → ∀ x ∈ xs.head?, ∃ k, x = D.int k) → Q (D.cmps xs ys == .lt) s →
    PySem.W.KatLex prog w A b (decide (xs.length < ys.length)) Q (us.zip ws) i s
  | [], [], _, _, _, .nil, .nil, _, _, _, _, h => PySem.W.kat_nil h
  | [], _ :: _, _, _, _, .nil, .cons _ _, _, _, _, _, h => PySem.W.kat_nil h
  | _ :: _, [], _, _, _, .cons _ _, .nil, _, _, _, _, h => PySem.W.kat_nil h
  | x :: xs, y :: ys, _, _, i, .cons (u := u) r t, .cons (u := u') r' t', h1, h2, hc, hb, h => by
    rw [List.all_cons, Bool.and_eq_true] at h1 h2
    have hc' : (D.cpb n x y && (xs.zip ys).all fun p => D.cpb n p.1 p.2) = true := hc
    rw [Bool.and_eq_true] at hc'
    have hd : decide ((x :: xs).length < (y :: ys).length) = decide (xs.length < ys.length) := by
      rw [Bool.eq_iff_iff, decide_eq_true_eq, decide_eq_true_eq, List.length_cons, List.length_cons]
      omega
    have h' : Q ((D.cmp x y).then (D.cmps xs ys) == .lt) s := h
    rw [hd]
    refine PySem.W.kat_cons (key_eqAt (n := n) r r' h1.1 h2.1 hu prog w _ _ ?_)
    have one : (D.cmp x y == Ordering.eq) = false → Q (D.cmp x y == .lt) s → wpAny (model prog w) A (oneLt' (b && i == 0) u u') Q (fun _ _ => False) s := by
      intro _ hq
      cases hbi : (b && i == 0) with
      | false => exact PySem.W.kat_one _ _ (key_lt n r r' h1.1 h2.1 hc'.1 hu prog w _ _ (show PySem.W.BoolBack Q (.bool _) s from hq))
      | true =>
        rw [Bool.and_eq_true, beq_iff_eq] at hbi
        obtain ⟨k, ek⟩ := hb hbi.1 hbi.2 x rfl
        subst ek
        cases r with
        | int _ t1 =>
          cases r' with
          | int k2 t2 =>
            have e : (D.cmp (.int k) (.int k2) == .lt) = decide (k < k2) := by
              show (compare k k2 == .lt) = _
              rw [Bool.eq_iff_iff, beq_iff_eq, decide_eq_true_eq, Int.compare_eq_lt]
            rw [e] at hq
            exact oneLt_int hq
          | tup _ _ =>
            have z := hc'.1
            cases n <;> cases z
    cases hcm : D.cmp x y with
    | eq =>
      rw [hcm] at h'
      exact PySem.W.kat_yes (kat_key hu t t' h1.2 h2.2 hc'.2 (fun _ z => absurd z (Nat.succ_ne_zero _)) h')
    | lt =>
      rw [hcm] at h' one
      exact PySem.W.kat_no (one rfl h')
    | gt =>
      rw [hcm] at h' one
      exact PySem.W.kat_no (one rfl h')
/-! ### which way the sort compares -/
/-- the first items of tuples -/
def Firsts (h : Heap) : List Value → List (Option Value) → Prop
  | [], [] => True
  | v :: vs, f :: fs => (∃ a xs, v = .ref a ∧ h.IsTuple a xs ∧ f = xs[0]?) ∧ Firsts h vs fs
  | _, _ => False
theorem firsts_mapM {M : Model} : ∀ (vs : List Value) (fs : List (Option Value)) {Q : List (Option Value) → Shared → Prop}, Firsts s.heap vs fs → Q fs s → wpAny M A (vs.mapM firstOfTuple') Q E' s
  | [], [], _, _, h => by rw [List.mapM_nil]; exact wpAny_pure h
  | [], _ :: _, _, t, _ => t.elim
  | _ :: _, [], _, t, _ => t.elim
  | v :: vs, f :: fs, Q, t, h => by
    obtain ⟨⟨a, xs, rfl, ⟨o, ho, hc, n, hd⟩, hf⟩, t⟩ := t
    rw [List.mapM_cons]
    refine wpAny_bind ?_
    rw [PySem.W.kas_first_eq]
    refine wpAny_bind (PySem.W.Looks.here (show PySem.W.Looks M s.heap (typeOf (.ref a)) o.cls from (PySem.W.Looks.ld ho).andThen .now) ?_)
    rw [hc, if_neg (by first | decide | simp)]
    refine wpAny_bind (listItems_at ho hd (wpAny_pure ?_))
    rw [← hf]
    exact wpAny_bind (firsts_mapM vs fs (Q := fun bs s' => wpAny M A (pure (f :: bs)) Q E' s') t (wpAny_pure h))
theorem firsts_len {h : Heap} : ∀ {vs : List Value} {fs : List (Option Value)}, Firsts h vs fs → vs.length = fs.length
  | [], [], _ => rfl
  | [], _ :: _, t => t.elim
  | _ :: _, [], t => t.elim
  | _ :: vs, _ :: fs, t => by rw [List.length_cons, List.length_cons, firsts_len t.2]
theorem firsts_all {h : Heap} : ∀ {vs : List Value} {fs : List (Option Value)}, Firsts h vs fs → (fs.all fun f => f.isSome) = true → PySem.W.KatTups h vs (fs.filterMap id)
  | [], [], _, _ => trivial
  | [], _ :: _, t, _ => t.elim
  | _ :: _, [], t, _ => t.elim
  | v :: vs, none :: fs, _, e => by cases e
  | v :: vs, some f :: fs, t, e => by
    obtain ⟨⟨a, xs, rfl, ⟨o, ho, hc, n, hd⟩, hf⟩, t⟩ := t
    exact ⟨⟨a, o, xs, n, rfl, ho, hc, hd, hf.symm⟩, firsts_all t e⟩
theorem firsts_refs {h : Heap} : ∀ {vs : List Value} {fs : List (Option Value)}, Firsts h vs fs → ∀ v ∈ vs, ∃ a, v = .ref a ∧ ∃ o, h.get? a = some o ∧ o.cls = .type "tuple"
  | [], [], _ => fun v hv => by cases hv
  | [], _ :: _, t => t.elim
  | _ :: _, [], t => t.elim
  | u :: vs, f :: fs, t => fun v hv => by
    rcases List.mem_cons.mp hv with e | hv
    · obtain ⟨⟨a, xs, rfl, ⟨o, ho, hc, n, hd⟩, hf⟩, t⟩ := t
      exact ⟨a, e, o, ho, hc⟩
    · exact firsts_refs t.2 v hv
/-- tuples, some of them empty -/
theorem kind_some {vs : List Value} {fs : List (Option Value)} {Q : SortKind → Shared → Prop} (t : Firsts s.heap vs fs) (hne : (fs.all fun f => f.isSome) = false)
    (h1 : (fs[0]?.bind id).isSome = true → Q general' s) (h2 : (fs[0]?.bind id).isSome = false → Q oneType' s) : wpAny (model prog w) A (keyKind' vs.toArray) Q E' s := by
  rw [kat_kind_eq, List.mapM_toArray, map_eq_pure_bind]
  refine wpAny_bind (wpAny_bind (firsts_mapM vs fs t (wpAny_pure ?_)))
  have hall : (fs.toArray.all fun x => x.isSome) = false := by
    rw [List.all_toArray]
    exact hne
  rw [if_neg (by rw [hall]; decide)]
  have e0 : fs.toArray[0]? = fs[0]? := by simp
  rw [e0]
  cases hf : (fs[0]?.bind id).isSome with
  | true =>
    simp only [if_true]
    exact wpAny_pure (h1 hf)
  | false =>
    simp only [Bool.false_eq_true, if_false]
    rw [oneTypeOnly'_eq, List.mapM_toArray, map_eq_pure_bind]
    refine wpAny_bind (wpAny_bind (wpAny_bind (PySem.W.kas_mapM (r := Value.type "tuple") _ (fun v hv Q' hq => ?_) (wpAny_pure ?_))))
    · obtain ⟨a, e, o, ho, hc⟩ := firsts_refs t v (by simpa using hv)
      subst e
      refine PySem.W.Looks.here (show PySem.W.Looks _ s.heap (typeOf (.ref a)) o.cls from (PySem.W.Looks.ld ho).andThen .now) ?_
      rw [hc]
      exact hq
    · have hall2 : ((List.map (fun _ => Value.type "tuple") vs).toArray.all fun x => x == Value.type "tuple") = true := by
        simp only [List.all_toArray, List.all_map, List.all_eq_true]
        intro _ _
        rfl
      have hv : 0 < vs.length := by
        rw [firsts_len t]
        cases fs with
        | nil => cases hne
        | cons _ _ => exact Nat.succ_pos _
      have h0 : (List.map (fun _ => Value.type "tuple") vs).toArray[0]? = some (Value.type "tuple") := by
        simp [hv]
      rw [h0]
      simp only [hall2, if_true]
      exact wpAny_pure (wpAny_pure (h2 hf))
end
end Fm

namespace Fm
open PySem PySem.Spec PyProof.Rows L2 SrtO
/-! ### my sort -/
theorem insD_perm (x : D) : ∀ l : List D, (insD x l).Perm (x :: l)
  | [] => List.Perm.refl _
  | y :: r => by
    unfold insD
    split
    · exact List.Perm.refl _
    · exact ((insD_perm x r).cons y).trans (List.Perm.swap x y r)
theorem sortD_perm : ∀ l : List D, (sortD l).Perm l
  | [] => List.Perm.refl _
  | x :: r => (insD_perm x (sortD r)).trans ((sortD_perm r).cons x)
theorem insD_sorted (x : D) : ∀ l : List D, l.Pairwise (fun a b => D.le a b = true) → (insD x l).Pairwise (fun a b => D.le a b = true)
  | [], _ => List.pairwise_singleton _ _
  | y :: r, h => by
    unfold insD
    rw [List.pairwise_cons] at h
    by_cases hxy : D.le x y = true
    · rw [if_pos hxy, List.pairwise_cons, List.pairwise_cons]
      refine ⟨fun z hz => ?_, h⟩
      rcases List.mem_cons.mp hz with rfl | hz
      · exact hxy
      · exact le_trans hxy (h.1 z hz)
    · rw [if_neg hxy, List.pairwise_cons]
      refine ⟨fun z hz => ?_, insD_sorted x r h.2⟩
      rcases List.mem_cons.mp ((insD_perm x r).mem_iff.mp hz) with rfl | hz
      · exact (le_total _ _).resolve_left hxy
      · exact h.1 z hz
theorem sortD_sorted : ∀ l : List D, (sortD l).Pairwise (fun a b => D.le a b = true)
  | [] => List.Pairwise.nil
  | x :: r => insD_sorted x _ (sortD_sorted r)
/-- two sorted ones of the same things, alike only if the same, are one -/
theorem sorted_one {P : D → Prop} (anti : ∀ a b, P a → P b → D.le a b = true → D.le b a = true → a = b) : ∀ {l m : List D}, l.Perm m → (∀ a ∈ l, P a) → l.Pairwise (fun a b => D.le a b = true) → m.Pairwise (fun a b => D.le a b = true) → l = m := by
  intro l
  induction l with
  | nil => intro m p _ _ _; exact (List.perm_nil.mp p.symm).symm
  | cons x l ih =>
    intro m p hP hl hm
    cases m with
    | nil => exact absurd (List.perm_nil.mp p) (by simp)
    | cons y m =>
      have hx : x = y := by
        have mx : x ∈ y :: m := p.mem_iff.mp List.mem_cons_self
        have my : y ∈ x :: l := p.mem_iff.mpr List.mem_cons_self
        rcases List.mem_cons.mp mx with e | mx
        · exact e
        · rcases List.mem_cons.mp my with e | my
          · exact e.symm
          · exact anti x y (hP x List.mem_cons_self) (hP y (List.mem_cons_of_mem _ my)) ((List.pairwise_cons.mp hl).1 y my) ((List.pairwise_cons.mp hm).1 x mx)
      subst hx
      rw [ih ((List.perm_cons x).mp p) (fun a h => hP a (List.mem_cons_of_mem _ h)) (List.pairwise_cons.mp hl).2 (List.pairwise_cons.mp hm).2]
theorem le_anti {n : Nat} {a b : D} (h1 : a.keyd n = true) (h2 : b.keyd n = true) (p : D.le a b = true) (q : D.le b a = true) : a = b := by
  refine (cmp_eq n a b h1 h2).mp ?_
  simp only [D.le, bne_iff_ne] at p q
  rw [cmp_swap a b] at q
  cases e : D.cmp a b with
  | eq => rfl
  | lt => rw [e] at q; exact absurd rfl q
  | gt => exact absurd e p

/-! ### keys of the machine, told -/
open Classical in
noncomputable def dOf (h : Heap) (u : Value) : D := if e : ∃ d, KeyAt h u d then e.choose else .non
theorem dOf_eq {h : Heap} {u : Value} {d : D} (k : KeyAt h u d) : dOf h u = d := by
  have e : ∃ d, KeyAt h u d := ⟨d, k⟩
  unfold dOf
  rw [dif_pos e]
  exact e.choose_spec.uniq k
theorem dOf_all {h : Heap} : ∀ {us : List Value} {ds : List D}, KeyAts h us ds → us.map (dOf h) = ds
  | _, _, .nil => rfl
  | _, _, .cons r t => by rw [List.map_cons, dOf_eq r, dOf_all t]
theorem KeyAts.mem {h : Heap} : ∀ {us : List Value} {ds : List D}, KeyAts h us ds → ∀ u ∈ us, ∃ d ∈ ds, KeyAt h u d
  | _, _, .nil, u, hu => by cases hu
  | _, _, .cons r t, u, hu => by
    rcases List.mem_cons.mp hu with rfl | hu
    · exact ⟨_, List.mem_cons_self, r⟩
    · obtain ⟨d, hd, k⟩ := KeyAts.mem t u hu
      exact ⟨d, List.mem_cons_of_mem _ hd, k⟩
noncomputable def ltK (h : Heap) (v u : Value) : Bool := D.cmp (dOf h v) (dOf h u) == .lt
theorem ltK_no {h : Heap} {v u : Value} : ltK h v u = false ↔ D.le (dOf h u) (dOf h v) = true := by
  unfold ltK D.le
  rw [cmp_swap (dOf h v) (dOf h u)]
  cases D.cmp (dOf h v) (dOf h u) <;> simp
theorem swo_key (h : Heap) : Swo (ltK h) := by
  refine ⟨fun x y e => ?_, fun x y z h1 h2 => ?_⟩
  · rw [ltK_no]
    unfold ltK at e
    unfold D.le
    rw [beq_iff_eq] at e
    rw [e]
    rfl
  · rw [ltK_no] at h1 h2 ⊢
    exact le_trans h1 h2
section
variable {prog : Program} {w : World} {A : Around} {s : Shared} {E' : Value → Shared → Prop}
theorem keyAts_ints {h : Heap} : ∀ {us : List Value} {ds : List D}, KeyAts h us ds → (∀ d ∈ ds, ∃ i, d = D.int i) → ∃ ns, IntsAre us ns
  | _, _, .nil, _ => ⟨[], .nil⟩
  | _, _, .cons r t, hd => by
    obtain ⟨i, e⟩ := hd _ List.mem_cons_self
    subst e
    cases r with
    | int _ tk =>
      obtain ⟨ns, q⟩ := keyAts_ints t fun d h => hd d (List.mem_cons_of_mem _ h)
      exact ⟨i :: ns, .cons i tk q⟩
def firstV (h : Heap) : List Value → List (Option Value)
  | [] => []
  | v :: vs => (match v with
    | .ref a => (match h.get? a with
      | some o => (match o.data with
        | .seq xs _ => xs[0]?
        | _ => none)
      | none => none)
    | _ => none) :: firstV h vs
theorem firsts_of_keys {h : Heap} : ∀ {us : List Value} {ds : List D}, KeyAts h us ds → (∀ d ∈ ds, ∃ xs, d = D.tup xs) → Firsts h us (firstV h us)
  | _, _, .nil, _ => trivial
  | _, _, .cons r t, hd => by
    obtain ⟨xs, e⟩ := hd _ List.mem_cons_self
    subst e
    cases r with
    | tup p q =>
      refine ⟨⟨_, _, rfl, p, ?_⟩, firsts_of_keys t fun d h => hd d (List.mem_cons_of_mem _ h)⟩
      obtain ⟨o, e, c, n, z⟩ := p
      simp only [e, z]
/-- all of one make -/
theorem one_make {n : Nat} {ds : List D} (h2 : 2 ≤ ds.length) (hk : ds.all (D.keyd (n + 1)) = true) (hc : (ds.all fun x => ds.all fun y => D.cpb (n + 1) x y) = true) : (∀ d ∈ ds, ∃ i, d = D.int i) ∨ ∀ d ∈ ds, ∃ xs, d = D.tup xs := by
  obtain ⟨x, r, rfl⟩ : ∃ x r, ds = x :: r := by
    cases ds with
    | nil => exact absurd h2 (by simp)
    | cons x r => exact ⟨x, r, rfl⟩
  have hx := List.all_eq_true.mp hc x List.mem_cons_self
  have kx := List.all_eq_true.mp hk x List.mem_cons_self
  cases x with
  | int i =>
    refine .inl fun d hd => ?_
    have z := List.all_eq_true.mp hx d hd
    cases d with
    | int j => exact ⟨j, rfl⟩
    | _ => cases z
  | tup xs =>
    refine .inr fun d hd => ?_
    have z := List.all_eq_true.mp hx d hd
    cases d with
    | tup ys => exact ⟨ys, rfl⟩
    | _ => cases z
  | _ => cases kx
theorem key_sortable {a : Addr} {vs : List Value} {ds : List D} {h0 : Heap} (hu : A.units + 30 < cLine) (k : KeyAts h0 vs ds) (hn : ∀ u d, KeyAt h0 u d → KeyAt s.heap u d) (ha : ∀ o, s.heap.get? a = some o → o.cls ≠ .type "tuple")
    (h2 : 2 ≤ vs.length) (hk : ds.all (D.keyd 8) = true) (hc : (ds.all fun x => ds.all fun y => D.cpb 8 x y) = true) : SortableO prog w A s a vs (ltK h0) := by
  intro h' keep
  have hlen := k.length
  have kp : ∀ u d, KeyAt h0 u d → KeyAt h' u d := fun u d q => (hn u d q).keeps fun b o e c => keep b o (fun z => by subst z; exact ha o e c) e
  have kps : ∀ {us : List Value} {ds : List D}, KeyAts h0 us ds → KeyAts h' us ds := by
    intro us ds q
    induction us generalizing ds with
    | nil => cases q; exact .nil
    | cons u us ih =>
      cases q with
      | cons r t => exact .cons (kp _ _ r) (ih t)
  have dd : ∀ u ∈ vs, ∃ d ∈ ds, KeyAt h' u d ∧ dOf h0 u = d := fun u hu => by
    obtain ⟨d, hd, q⟩ := k.mem u hu
    exact ⟨d, hd, kp _ _ q, dOf_eq q⟩
  rcases one_make (by omega) hk hc with hi | ht
  · obtain ⟨ns, hI⟩ := keyAts_ints k hi
    refine ⟨oneType', fun Q E hq => ?_, fun p q hp hq => ?_⟩
    · match vs, hI, h2 with
      | v1 :: v2 :: rest, hI, _ =>
        rw [keyKind_ints hI]
        exact wpAny_pure hq
      | [], _, h => exact absurd h (by decide)
      | [v], _, h => exact absurd h (by simp)
    · obtain ⟨d1, m1, k1, e1⟩ := dd p.1 hp
      obtain ⟨d2, m2, k2, e2⟩ := dd q.1 hq
      obtain ⟨i, rfl⟩ := hi d1 m1
      obtain ⟨j, rfl⟩ := hi d2 m2
      show wpAny (model prog w) A (keyLt' oneType' p.1 q.1) (fun r s' => s' = _ ∧ r = (D.cmp (dOf h0 p.1) (dOf h0 q.1) == .lt)) (fun _ _ => False) _
      rw [e1, e2, keyLt'_oneType]
      cases hp1 : p.1 with
      | int x t =>
        cases hq1 : q.1 with
        | int y u =>
          rw [hp1] at k1
          rw [hq1] at k2
          cases k1
          cases k2
          have e : (D.cmp (.int i) (.int j) == .lt) = decide (i < j) := by
            show (compare i j == .lt) = _
            rw [Bool.eq_iff_iff, beq_iff_eq, decide_eq_true_eq, Int.compare_eq_lt]
          rw [e]
          exact oneLt_int ⟨rfl, rfl⟩
        | _ => rw [hq1] at k2; cases k2
      | _ => rw [hp1] at k1; cases k1
  · have hf := firsts_of_keys (kps k) ht
    have pair : ∀ p q : Keyed, p.1 ∈ vs → q.1 ∈ vs → ∃ a b xs ys, p.1 = .ref a ∧ q.1 = .ref b ∧ KeyAt h' (.ref a) (.tup xs) ∧ KeyAt h' (.ref b) (.tup ys) ∧ dOf h0 p.1 = .tup xs ∧ dOf h0 q.1 = .tup ys ∧ D.tup xs ∈ ds ∧ D.tup ys ∈ ds ∧
        xs.all (D.keyd 7) = true ∧ ys.all (D.keyd 7) = true ∧ ((xs.zip ys).all fun p => D.cpb 7 p.1 p.2) = true := fun p q hp hq => by
      obtain ⟨d1, m1, k1, e1⟩ := dd p.1 hp
      obtain ⟨d2, m2, k2, e2⟩ := dd q.1 hq
      obtain ⟨xs, rfl⟩ := ht d1 m1
      obtain ⟨ys, rfl⟩ := ht d2 m2
      obtain ⟨a, ea⟩ : ∃ a, p.1 = .ref a := by
        cases hp1 : p.1 <;> rw [hp1] at k1 <;> first | exact ⟨_, rfl⟩ | cases k1
      obtain ⟨b, eb⟩ : ∃ b, q.1 = .ref b := by
        cases hq1 : q.1 <;> rw [hq1] at k2 <;> first | exact ⟨_, rfl⟩ | cases k2
      exact ⟨a, b, xs, ys, ea, eb, ea ▸ k1, eb ▸ k2, e1, e2, m1, m2, List.all_eq_true.mp hk _ m1, List.all_eq_true.mp hk _ m2, List.all_eq_true.mp (List.all_eq_true.mp hc _ m1) _ m2⟩
    have lt2c : ∀ (κ : SortKind), (κ = oneType' ∨ κ = general') → Cmp prog w A { s with heap := h' } κ (fun p => p.1 ∈ vs) (lt2 (ltK h0)) := by
      intro κ hκ p q hp hq
      obtain ⟨a, b, xs, ys, ea, eb, k1, k2, e1, e2, m1, m2, f1, f2, f3⟩ := pair p q hp hq
      show wpAny (model prog w) A (keyLt' κ p.1 q.1) (fun r s' => s' = _ ∧ r = (D.cmp (dOf h0 p.1) (dOf h0 q.1) == .lt)) (fun _ _ => False) _
      rw [e1, e2, ea, eb]
      rcases hκ with rfl | rfl
      · rw [keyLt'_oneType]
        exact one_tup (n := 7) k1 k2 f1 f2 f3 (by omega) ⟨rfl, rfl⟩
      · show wpAny (model prog w) A (oneLt' false (.ref a) (.ref b)) _ _ _
        exact PySem.W.kat_one _ _ (key_lt 8 k1 k2 (List.all_eq_true.mp hk _ m1) (List.all_eq_true.mp hk _ m2) (List.all_eq_true.mp (List.all_eq_true.mp hc _ m1) _ m2) (by omega) prog w _ _ ⟨rfl, rfl⟩)
    cases hall : ((firstV h' vs).all fun f => f.isSome) with
    | false =>
      cases h0 : ((firstV h' vs)[0]?.bind id).isSome with
      | true =>
        refine ⟨general', fun Q E hq => kind_some (s := { s with heap := h' }) hf hall (fun _ => hq) (fun z => ?_), lt2c _ (.inr rfl)⟩
        rw [h0] at z
        cases z
      | false =>
        refine ⟨oneType', fun Q E hq => kind_some (s := { s with heap := h' }) hf hall (fun z => ?_) (fun _ => hq), lt2c _ (.inl rfl)⟩
        rw [h0] at z
        cases z
    | true =>
      have KT := firsts_all hf hall
      have hlen2 : ((firstV h' vs).filterMap id).length = vs.length := by
        have q : ∀ {us : List Value} {fs : List Value}, PySem.W.KatTups h' us fs → us.length = fs.length := by
          intro us
          induction us with
          | nil => intro fs t; cases fs with | nil => rfl | cons _ _ => exact t.elim
          | cons u us ih => intro fs t; cases fs with | nil => exact t.elim | cons f fs => rw [List.length_cons, List.length_cons, ih t.2]
        exact (q KT).symm
      -- the first items are of one make
      have fk : ∀ f ∈ (firstV h' vs).filterMap id, ∃ d0 xs, D.tup (d0 :: xs) ∈ ds ∧ KeyAt h' f d0 := by
        have gen : ∀ {us : List Value} {es : List D}, KeyAts h' us es → (∀ d ∈ es, ∃ xs, d = D.tup xs) → ∀ f ∈ (firstV h' us).filterMap id, ∃ d0 xs, D.tup (d0 :: xs) ∈ es ∧ KeyAt h' f d0 := by
          intro us
          induction us with
          | nil => intro es _ _ f hf; cases hf
          | cons u us ih =>
            intro es q he f hf
            cases q with
            | cons r t =>
              obtain ⟨xs, e⟩ := he _ List.mem_cons_self
              subst e
              cases r with
              | @tup a its _ p q =>
                have e1 : firstV h' (Value.ref a :: us) = its[0]? :: firstV h' us := by
                  obtain ⟨o, e, c, n, z⟩ := p
                  show _ :: _ = _
                  simp only [e, z]
                  rw [List.getElem?_toArray]
                rw [e1, List.filterMap_cons] at hf
                cases q with
                | nil =>
                  obtain ⟨d0, xs, m, k⟩ := ih t (fun d h => he d (List.mem_cons_of_mem _ h)) f hf
                  exact ⟨d0, xs, List.mem_cons_of_mem _ m, k⟩
                | cons r2 t2 =>
                  rcases List.mem_cons.mp hf with e | hf
                  · subst e
                    exact ⟨_, _, List.mem_cons_self, r2⟩
                  · obtain ⟨d0, xs, m, k⟩ := ih t (fun d h => he d (List.mem_cons_of_mem _ h)) f hf
                    exact ⟨d0, xs, List.mem_cons_of_mem _ m, k⟩
        exact gen (kps k) ht
      have alike : ∀ d0 xs e0 ys, D.tup (d0 :: xs) ∈ ds → D.tup (e0 :: ys) ∈ ds → D.cpb 7 d0 e0 = true := fun d0 xs e0 ys m1 m2 => by
        have z : (((d0 :: xs).zip (e0 :: ys)).all fun p => D.cpb 7 p.1 p.2) = true := List.all_eq_true.mp (List.all_eq_true.mp hc _ m1) _ m2
        rw [List.zip_cons_cons, List.all_cons, Bool.and_eq_true] at z
        exact z.1
      have tuples : ∀ b : Bool, (b = true → ∀ d0 xs, D.tup (d0 :: xs) ∈ ds → ∃ i, d0 = D.int i) → Cmp prog w A { s with heap := h' } (tuples' b) (fun p => p.1 ∈ vs) (lt2 (ltK h0)) := by
        intro b hb p q hp hq
        obtain ⟨a, b', xs, ys, ea, eb, k1, k2, e1, e2, m1, m2, f1, f2, f3⟩ := pair p q hp hq
        show wpAny (model prog w) A (keyLt' (tuples' b) p.1 q.1) (fun r s' => s' = _ ∧ r = (D.cmp (dOf h0 p.1) (dOf h0 q.1) == .lt)) (fun _ _ => False) _
        rw [e1, e2, ea, eb]
        obtain ⟨its, p1, r1⟩ : ∃ its, h'.IsTuple a its.toArray ∧ KeyAts h' its xs := by
          cases k1 with
          | tup p r => exact ⟨_, p, r⟩
        obtain ⟨its', p2, r2⟩ : ∃ its, h'.IsTuple b' its.toArray ∧ KeyAts h' its ys := by
          cases k2 with
          | tup p r => exact ⟨_, p, r⟩
        obtain ⟨o1, g1, _, n1, z1⟩ := p1
        obtain ⟨o2, g2, _, n2, z2⟩ := p2
        refine PySem.W.kat_lt (s := { s with heap := h' }) g1 z1 g2 z2 ?_
        rw [List.size_toArray, List.size_toArray, r1.length, r2.length]
        refine kat_key (s := { s with heap := h' }) (n := 7) (by omega) r1 r2 f1 f2 f3 (fun hbt _ x hx => ?_) ⟨rfl, rfl⟩
        cases xs with
        | nil => cases hx
        | cons x0 xs =>
          have e := Option.some.inj (show some x0 = some x from hx)
          subst e
          exact hb hbt _ _ m1
      obtain ⟨f0, hf0⟩ : ∃ f0, f0 ∈ (firstV h' vs).filterMap id := by
        cases e : (firstV h' vs).filterMap id with
        | nil => rw [e] at hlen2; exact absurd hlen2 (by rw [List.length_nil]; omega)
        | cons x r => exact ⟨x, List.mem_cons_self⟩
      obtain ⟨d0, xs0, m0, kf0⟩ := fk f0 hf0
      have kd0 : d0.keyd 7 = true := by
        have z : (d0 :: xs0).all (D.keyd 7) = true := List.all_eq_true.mp hk _ m0
        rw [List.all_cons, Bool.and_eq_true] at z
        exact z.1
      cases d0 with
      | int i0 =>
        have ai : ∀ e0 ys, D.tup (e0 :: ys) ∈ ds → ∃ i, e0 = D.int i := fun e0 ys m => by
          have z := alike _ _ _ _ m0 m
          cases e0 with
          | int j => exact ⟨j, rfl⟩
          | _ => cases z
        refine ⟨tuples' true, fun Q E hq => PySem.W.kat_kind (s := { s with heap := h' }) (T := .type "int") KT (by omega) (fun f hm => ?_) (by rfl) ?_, tuples true fun _ => ai⟩
        · obtain ⟨e0, ys, m, kf⟩ := fk f hm
          obtain ⟨j, rfl⟩ := ai e0 ys m
          cases kf
          exact PySem.W.Looks.now
        · have e : (Value.type "int" != Value.type "tuple") = true := by first | decide +kernel | rfl | decide
          rw [e]
          exact hq
      | tup zs =>
        have at_ : ∀ e0 ys, D.tup (e0 :: ys) ∈ ds → ∃ zs, e0 = D.tup zs := fun e0 ys m => by
          have z := alike _ _ _ _ m0 m
          cases e0 with
          | tup j => exact ⟨j, rfl⟩
          | _ => cases z
        refine ⟨tuples' false, fun Q E hq => PySem.W.kat_kind (s := { s with heap := h' }) (T := .type "tuple") KT (by omega) (fun f hm => ?_) (by rfl) ?_, tuples false fun z => nomatch z⟩
        · obtain ⟨e0, ys, m, kf⟩ := fk f hm
          obtain ⟨zs, rfl⟩ := at_ e0 ys m
          cases kf with
          | tup p r =>
            obtain ⟨o, ho, hc, _⟩ := p
            rw [← hc]
            exact (PySem.W.Looks.ld ho).andThen .now
        · have e : (Value.type "tuple" != Value.type "tuple") = false := by first | decide +kernel | rfl | decide
          rw [e]
          exact hq
      | _ => cases kd0
end
end Fm

namespace Fm
open PySem PySem.Spec PyProof.Rows L2 SrtO
section
variable {prog : Program} {w : World} {A : Around} {s : Shared} {E' : Value → Shared → Prop}
/-- what list(..) makes of a tuple's items -/
theorem collect_tup {l : Addr} {vs : List Value} {Q : List Value → Shared → Prop} (hl : s.heap.IsTuple l vs.toArray)
    (h : Q vs { s with heap := (s.heap.push (seqObj "list" #[] 0)).update s.heap.objs.size (Obj.mapSeq (· ++ vs.toArray)) }) (hsz : vs.length ≤ sizeLine) :
    wpAny (model prog w) A (collect (.ref l)) Q E' s := by
  obtain ⟨o, ho, hc, n, hd⟩ := id hl
  unfold collect
  refine wpAny_bind (wpAny_runValue (codeAny_builtin entry_proto_collect' ?_))
  show wpAny _ _ (do again (.builtin "list.__iadd__" ⟨[← newList [], .ref l], []⟩)) _ _ s
  refine wpAny_bind (wpAny_newList (wpAny_pure ⟨Code.quiet_builtin _ (by decide +kernel), codeAny_builtin entry_list_iadd' ?_⟩))
  show wpAny _ _ (Builtin.List.listExtendWith (.ref s.heap.objs.size) (.ref l) (.ref s.heap.objs.size)) _ _ { s with heap := s.heap.push (seqObj "list" #[] 0) }
  unfold Builtin.List.listExtendWith
  have ho' : (s.heap.push (seqObj "list" #[] 0)).get? l = some o := Heap.get?_push_of_some _ ho
  refine wpAny_bind (wpAny_typeOf (T := "tuple") ⟨o, ho', hc⟩ ?_)
  have ht : (Value.type "tuple" == Value.type "tuple") = true := by rfl
  rw [if_pos (by rw [ht]; simp)]
  refine wpAny_bind (listItems_at ho' hd ?_)
  refine wpAny_bind (listItems_at (xs := #[]) (n := 0) (Heap.get?_push_size _ rfl) rfl ?_)
  rw [if_neg (by simp)]
  refine wpAny_bind (listUpdate_at (xs := #[]) (n := 0) (Heap.get?_push_size _ rfl) rfl ?_ (Nat.zero_le _) (by show (#[] ++ vs.toArray).size ≤ sizeLine + 1; simp only [Array.size_append, List.size_toArray, List.length_nil]; omega))
  refine wpAny_pure ?_
  show wpAny (model prog w) A (do
      let o ← load s.heap.objs.size
      match o.data with
      | .seq xs _ => pure xs.toList
      | _ => unsupported "internal:collect") Q E' { s with heap := (s.heap.push (seqObj "list" #[] 0)).update s.heap.objs.size (Obj.mapSeq (· ++ vs.toArray)) }
  refine wpAny_bind (wpAny_load (get?_update_seq (Heap.get?_push_size _ rfl) _) ?_)
  show wpAny _ _ (pure ((#[] : Array Value) ++ vs.toArray).toList) Q E' _
  rw [show ((#[] : Array Value) ++ vs.toArray).toList = vs by simp]
  exact wpAny_pure h
theorem sorted_any {l : Addr} {vs : List Value} {ltv : Value → Value → Bool} {Q : Value → Shared → Prop} (O : Swo ltv) (hl : s.heap.IsList l vs.toArray ∨ s.heap.IsTuple l vs.toArray) (hz : vs.length ≤ sizeLine)
    (hS : 2 ≤ vs.length → ∀ (h₁ : Heap) (a : Addr), h₁.get? a = some (seqObj "list" vs.toArray 0) → (∀ b o, s.heap.get? b = some o → b ≠ a ∧ h₁.get? b = some o) → SortableO prog w A.in1.in1 { s with heap := h₁ } a vs ltv)
    (h : ∀ out : List Value, Srtd ltv out → Stb ltv out vs → Q (.ref (s.heap.objs.size + 1)) { s with heap := sortedAll s.heap vs out.toArray }) :
    wpAny (model prog w) A (call (.builtin "sorted") [.ref l]) Q E' s := by
  rcases hl with hl | hl
  · exact sorted_ord O hl hz hS h
  · refine Calls.call_function_entry kind_sorted plain_sorted entry_sorted (args_sorted1 _) ?_
    unfold Builtin.«sorted»
    refine wpAny_bind (m := checkCount "sorted" 1 1 _) (wpAny_pure ?_)
    refine wpAny_bind (collect_tup hl ?_ hz)
    refine wpAny_bind (wpAny_newList ?_ hz)
    have hsz : ((s.heap.push (seqObj "list" #[] 0)).update s.heap.objs.size (Obj.mapSeq (· ++ vs.toArray))).objs.size = s.heap.objs.size + 1 := by
      rw [Heap.size_update, size_push']
    have hoL : (((s.heap.push (seqObj "list" #[] 0)).update s.heap.objs.size (Obj.mapSeq (· ++ vs.toArray))).push (seqObj "list" vs.toArray 0)).get? (s.heap.objs.size + 1) = some (seqObj "list" vs.toArray 0) := by
      rw [← hsz]; exact Heap.get?_push_size _ rfl
    have keep : ∀ b o, s.heap.get? b = some o → b ≠ s.heap.objs.size + 1 ∧ (((s.heap.push (seqObj "list" #[] 0)).update s.heap.objs.size (Obj.mapSeq (· ++ vs.toArray))).push (seqObj "list" vs.toArray 0)).get? b = some o := fun b o q => by
      have hlt : b < s.heap.objs.size := Heap.lt_size q
      refine ⟨Nat.ne_of_lt (Nat.lt_succ_of_lt hlt), Heap.get?_push_of_some _ ?_⟩
      rw [Heap.get?_update_ne _ _ _ _ (Nat.ne_of_lt hlt)]
      exact Heap.get?_push_of_some _ q
    show wpAny _ _ _ _ _ { s with heap := ((s.heap.push (seqObj "list" #[] 0)).update s.heap.objs.size (Obj.mapSeq (· ++ vs.toArray))).push (seqObj "list" vs.toArray 0) }
    rw [hsz]
    refine wpAny_bind (wpAny_holding (wpAny_call_entry slot_list_sort ⟨_, hoL, rfl⟩ entry_list_sort (list_sort_ord O hoL hz (fun h2 => hS h2 _ _ hoL keep) fun out hs hb => ⟨_, rfl, ?_⟩) (args_list_sort _)))
    exact wpAny_pure ⟨_, rfl, h out hs hb⟩
end
section
variable {W : Wd} {Z : Addr → Prop} {G : Gh} {H : Hp} {X : Cx} {pins : List (Addr × Obj)} {σ : L2.St} {s : Shared}
mutual
theorem Rel.key (I : Inv X pins σ H s) : ∀ (n : Nat) {v : V} {u : Value} {d : D}, Rel W Z G H v d → RelV v u → d.keyd n = true → KeyAt s.heap u d
  | 0, _, _, _, _, _, h => by cases h
  | n + 1, _, _, _, .int i, r, _ => by
    obtain ⟨t, e⟩ := r
    subst e
    exact .int i t
  | n + 1, _, _, _, .tup h g r, rv, hk => by
    cases (show _ = Value.ref _ from rv)
    obtain ⟨its, r2, p, _⟩ := I.tuple (.of h)
    exact .tup p (RelL.key I n r r2 hk)
  | n + 1, _, _, _, .non, _, h => by cases h
  | n + 1, _, _, _, .bl _, _, h => by cases h
  | n + 1, _, _, _, .str _, _, h => by cases h
  | n + 1, _, _, _, .lst _ _ _ _, _, h => by cases h
  | n + 1, _, _, _, .crowd _ _ _ _ _, _, h => by cases h
  | n + 1, _, _, _, .hand _, _, h => by cases h
  | n + 1, _, _, _, .scr _ _, _, h => by cases h
  | n + 1, _, _, _, .tape _, _, h => by cases h
  | n + 1, _, _, _, .emp _ _, _, h => by cases h
theorem RelL.key (I : Inv X pins σ H s) : ∀ (n : Nat) {vs : List V} {us : List Value} {ds : List D}, RelL W Z G H vs ds → Vals vs us → ds.all (D.keyd n) = true → KeyAts s.heap us ds
  | _, _, _, _, .nil, .nil, _ => .nil
  | n, _, _, _, .cons r t, .cons r' t', h => by
    rw [List.all_cons, Bool.and_eq_true] at h
    exact .cons (Rel.key I n r r' h.1) (RelL.key I n t t' h.2)
end
/-- sorted(x) -/
def rSortD (W : Wd) (hu : Bool) : List V → Hp → VK → Prop := fun vs H Q => ∃ Z G a xs ds, vs = [V.ref a] ∧ (H a = some (.lst xs) ∨ H a = some (.tup xs)) ∧ RelL W Z G H xs ds ∧ canSort ds = true ∧ ds.length ≤ maxL ∧
  ∀ ys p, H p = none → RelL W Z G H ys (sortD ds) → Q (.ref p) (upd H p (.lst ys))
theorem cr_sortedD (hu : X.A.units + 40 < cLine) : CallR X (.builtin "sorted") (rSortD W true) := by
  intro pins s σ H vs us Q I r h
  obtain ⟨Z, G, a, xs, ds, rfl, ha, rl, hc, hl, q⟩ := h
  rw [Vals.ref1 r]
  rw [canSort, Bool.and_eq_true] at hc
  obtain ⟨its, rv, hlt, hz⟩ : ∃ its : List Value, Vals xs its ∧ (s.heap.IsList a its.toArray ∨ s.heap.IsTuple a its.toArray) ∧ xs.length ≤ sizeLine := by
    rcases ha with ha | ha
    · obtain ⟨its, rv, p, z⟩ := I.list (.of ha)
      exact ⟨its, rv, .inl p.isList, z⟩
    · obtain ⟨its, rv, p, z⟩ := I.tuple (.of ha)
      exact ⟨its, rv, .inr p, z⟩
  have k := RelL.key I 8 rl rv hc.1
  refine sorted_any (swo_key s.heap) hlt (by rw [← rv.length]; exact hz) (fun h2 h₁ a' hs' kk => ?_) fun out h1 h2 => ?_
  · refine key_sortable (s := { s with heap := h₁ }) (h0 := s.heap) (by show X.A.units + 1 + 1 + 30 < cLine; omega) k (fun u d q => q.keeps fun b o e _ => (kk b o e).2) (fun o e => ?_) h2 hc.1 hc.2
    have e' : some o = some (seqObj "list" its.toArray 0) := e.symm.trans hs'
    cases e'
    intro c
    exact absurd (Value.type.inj c) (by decide)
  · obtain ⟨ep, he'⟩ := PyProof.Rows.sortedAll_at s.heap its out.toArray
    have hmem : ∀ u ∈ out, ∃ v d, RelV v u ∧ Rel W Z G H v d ∧ dOf s.heap u = d := fun u hu => by
      have hu' : u ∈ its := h2.perm.mem_iff.mp hu
      obtain ⟨i, hi, e⟩ := List.getElem_of_mem hu'
      have hix : i < xs.length := by rw [rv.length]; exact hi
      obtain ⟨u', e1, r1⟩ := rv.get (List.getElem?_eq_getElem hix)
      rw [List.getElem?_eq_getElem hi] at e1
      have e2 := Option.some.inj e1
      rw [e] at e2
      subst e2
      obtain ⟨d, e3, r2⟩ := rl.get (List.getElem?_eq_getElem hix)
      have kd : d.keyd 8 = true := List.all_eq_true.mp hc.1 _ (List.mem_of_getElem? e3)
      exact ⟨_, d, r1, r2, dOf_eq (Rel.key I 8 r2 r1 kd)⟩
    have outs : ∃ ys, Vals ys out ∧ RelL W Z G H ys (out.map (dOf s.heap)) := by
      have gen : ∀ l : List Value, (∀ u ∈ l, ∃ v d, RelV v u ∧ Rel W Z G H v d ∧ dOf s.heap u = d) → ∃ ys, Vals ys l ∧ RelL W Z G H ys (l.map (dOf s.heap)) := by
        intro l
        induction l with
        | nil => intro _; exact ⟨[], .nil, .nil⟩
        | cons u l ih =>
          intro hm
          obtain ⟨v, d, r1, r2, e⟩ := hm u List.mem_cons_self
          obtain ⟨ys, t1, t2⟩ := ih fun u hu => hm u (List.mem_cons_of_mem _ hu)
          refine ⟨v :: ys, .cons r1 t1, ?_⟩
          rw [List.map_cons, e]
          exact .cons r2 t2
      exact gen out hmem
    obtain ⟨ys, t1, t2⟩ := outs
    have eds : its.map (dOf s.heap) = ds := dOf_all k
    have perm : (out.map (dOf s.heap)).Perm ds := by
      rw [← eds]
      exact h2.perm.map _
    have keyd : ∀ d ∈ out.map (dOf s.heap), d.keyd 8 = true := fun d hd => List.all_eq_true.mp hc.1 d (perm.mem_iff.mp hd)
    have e : out.map (dOf s.heap) = sortD ds := by
      refine sorted_one (P := fun d => d.keyd 8 = true) (fun a b ha hb => le_anti ha hb) (perm.trans (sortD_perm ds).symm) keyd ?_ (sortD_sorted ds)
      rw [List.pairwise_map]
      exact h1.imp fun {x y} hxy => ltK_no.mp hxy
    rw [e] at t2
    have hlen : ys.length ≤ sizeLine := by
      rw [t1.length, h2.perm.length_eq, ← rv.length]
      exact hz
    exact ⟨.ref _, upd H (s.heap.objs.size + 1) (.lst ys), I.laid (t' := s.toks) (fun _ _ => PyProof.Rows.sortedAll_old) (Nat.le_succ _) ⟨hlen, out, ep, t1, he'⟩, rfl, q _ _ (I.hok.fresh (Nat.le_succ _)) t2⟩
end
end Fm

/-! FmE: the checker; what is known around. -/
namespace Fm
open PySem PySem.Spec PyProof.Rows L2

structure Kn where
  N : List Str
  fs : List (String × Nat)
  gi : List (String × Int)
def gl (sc : Scope) (x : Str) : Bool := decide (sc.names.lookup x = some .globalImplicit)
def vis (sc : Scope) (x : Str) : Bool := decide (sc.names.lookup x = some .local) || (decide (sc.names.lookup x = some .cell) || decide (sc.names.lookup x = some .free))
def plainNm (x : Str) : Bool := !(x == ("__debug__" : Str)) && !(x == ("__classdict__" : Str))
def binOf : O2 → Option Operator
  | .add => some .Add | .sub => some .Sub | .mul => some .Mult | .mod => some .Mod | .fdiv => some .FloorDiv | .pow => some .Pow | _ => none
def cmpOf : O2 → Option CmpOp
  | .eq => some .Eq | .ne => some .NotEq | .lt => some .Lt | .le => some .LtE | .gt => some .Gt | .ge => some .GtE | .isin => some .In | .notin => some .NotIn | .is_ => some .Is | .isnot => some .IsNot | _ => none
def biName : Bi → String
  | .len => "len" | .tuple => "tuple" | .list => "list" | .sorted => "sorted" | .all => "all" | .any => "any" | .min1 => "min" | .max1 => "max" | .min2 => "min" | .max2 => "max" | .sum => "sum" | .abs => "abs" | .int => "int"
  | .tupRange => "tuple" | .lstRange => "list"
def biRange : Bi → Bool
  | .tupRange => true | .lstRange => true | _ => false
def kiNames : Ki → List String
  | .int => ["int"] | .bool => ["bool"] | .tuple => ["tuple"] | .str => ["str"] | .list => ["list"] | .listtuple => ["list", "tuple"] | .dict => ["dict"]
def notStar : PySem.Expr → Bool
  | .Starred _ _ => false | _ => true
def notSet : PySem.Expr → Bool
  | .Set _ _ _ => false | _ => true
def notCall : PySem.Expr → Bool
  | .Call _ _ _ _ => false | _ => true
def notSlice : PySem.Expr → Bool
  | .Slice _ _ _ _ => false | _ => true
def isTupE : PySem.Expr → Bool
  | .Tuple _ _ _ => true | _ => false
def nmE : PySem.Expr → Option Str
  | .Name x _ => some x | _ => none
/-- a target -/
def nameOk (k : Kn) (sc : Scope) (fn : Str → Bool) (i : Nat) (x : Str) : Bool := decide (k.N[i]? = some x) && (decide (sc.names.lookup x = some .local) || (decide (sc.names.lookup x = some .cell) && fn x))
def nameM (k : Kn) (sc : Scope) (fn : Str → Bool) (i : Nat) : PySem.Expr → Bool
  | .Name x _ => nameOk k sc fn i x
  | _ => false
def allNames (k : Kn) (sc : Scope) (fn : Str → Bool) : List Nat → List PySem.Expr → Bool
  | [], [] => true
  | i :: is, e :: es => nameM k sc fn i e && allNames k sc fn is es
  | _, _ => false
def chkTg (k : Kn) (sc : Scope) (fn : Str → Bool) : Tg → PySem.Expr → Bool
  | .one i, e => nameM k sc fn i e
  | .many is, .Tuple es _ _ => allNames k sc fn is es
  | _, _ => false
def ownOf (k : Kn) (own : List Nat) : List (Str × Nat) := own.map fun i => (k.N.getD i ⟨#[]⟩, i)
def tgSub (own : List Nat) : Tg → Bool
  | .one i => own.contains i
  | .many is => is.all fun i => own.contains i
mutual
def chkE (k : Kn) : E → Scope → Option PySem.Expr → PySem.Expr → Bool
  | .var i, sc, _, .Name x _ => decide (k.N[i]? = some x) && (vis sc x && plainNm x)
  | .gint y j, sc, _, .Name x _ => decide (x = Str.ofString y) && (gl sc x && (k.gi.contains (y, j) && plainNm x))
  | .non, _, _, .Constant .none _ _ => true
  | .bl b, _, _, .Constant (.bool c) _ _ => b == c
  | .int i, _, _, .Constant (.int j) _ _ => decide (i = j)
  | .str s, _, _, .Constant (.str x) _ _ => decide (x = Str.ofString s)
  | .tup as, sc, _, .Tuple es _ _ => chkEs k as sc es
  | .lst as, sc, _, .List es _ => chkEs k as sc es
  | .op o a b, sc, _, .BinOp ea op eb _ => decide (binOf o = some op) && (chkE k a sc none ea && chkE k b sc none eb)
  | .op o a b, sc, _, .Compare ea [op] [eb] _ => decide (cmpOf o = some op) && (notSet eb && (chkE k a sc none ea && chkE k b sc none eb))
  | .chain o1 o2 a b c, sc, _, .Compare ea [p1, p2] [eb, ec] _ => decide (cmpOf o1 = some p1) && (decide (cmpOf o2 = some p2) && (notSet ec && (chkE k a sc none ea && (chkE k b sc none eb && chkE k c sc none ec))))
  | .neg a, sc, _, .UnaryOp .USub ea _ => chkE k a sc none ea
  | .nt a, sc, _, .UnaryOp .Not ea _ => chkE k a sc none ea
  | .and a b, sc, _, .BoolOp .And (ea :: eb :: rest) pos => chkE k a sc none ea && (match rest with
      | [] => chkE k b sc none eb
      | er :: rest => chkE k b sc none (.BoolOp .And (eb :: er :: rest) pos))
  | .or a b, sc, _, .BoolOp .Or (ea :: eb :: rest) pos => chkE k a sc none ea && (match rest with
      | [] => chkE k b sc none eb
      | er :: rest => chkE k b sc none (.BoolOp .Or (eb :: er :: rest) pos))
  | .ite c a b, sc, _, .IfExp ec ea eb _ => chkE k c sc none ec && (chkE k a sc none ea && chkE k b sc none eb)
  | .call f as, sc, _, .Call (.Name x _) es [] _ => decide (x = Str.ofString f) && (gl sc x && (k.fs.contains (f, es.length) && (plainNm x && (!(f == "==") && chkEs k as sc es))))
  | .blt f (.cons a .nil), sc, _, .Call (.Name x _) [ea] [] _ => decide (x = Str.ofString (biName f)) && (gl sc x && (if biRange f then (match ea with
      | .Call (.Name y _) [eb] [] _ => decide (y = Str.ofString "range") && (gl sc y && (notStar eb && chkE k a sc none eb))
      | _ => false) else notStar ea && chkE k a sc none ea))
  | .blt f (.cons a (.cons b .nil)), sc, _, .Call (.Name x _) [ea, eb] [] _ => decide (x = Str.ofString (biName f)) && (gl sc x && ((decide (f = .min2) || decide (f = .max2)) && (notStar ea && (notStar eb && (chkE k a sc none ea && chkE k b sc none eb)))))
  | .isi a kd, sc, _, .Call (.Name x _) [ea, et] [] _ => decide (x = Str.ofString "isinstance") && (gl sc x && (notStar ea && (chkE k a sc none ea && (match kiNames kd with
      | [t] => decide (nmE et = some (Str.ofString t)) && gl sc (Str.ofString t)
      | [t, u] => (match et with
        | .Tuple [e1, e2] _ _ => decide (nmE e1 = some (Str.ofString t)) && (decide (nmE e2 = some (Str.ofString u)) && (gl sc (Str.ofString t) && gl sc (Str.ofString u)))
        | _ => false)
      | _ => false))))
  | .attr a f, sc, _, .Attribute ea x _ => decide (x = Str.ofString f) && (notCall ea && chkE k a sc none ea)
  | .ix a i, sc, _, .Subscript ea ei _ => notSlice ei && (chkE k a sc none ea && chkE k i sc none ei)
  | .sl a lo hi, sc, _, .Subscript ea (.Slice l h none _) _ => chkE k a sc none ea && ((match l with
      | none => isNil lo
      | some e => !isNil lo && chkE k lo sc none e) && (match h with
      | none => isNil hi
      | some e => !isNil hi && chkE k hi sc none e))
  | .rev a, sc, _, .Subscript ea (.Slice none none (some (.UnaryOp .USub (.Constant (.int j) _ _) _)) _) _ => decide (j = 1) && chkE k a sc none ea
  | .lc tg own it test elt, sc, _, .ListComp ee [⟨t, ie, ifs, asy⟩] scope _ => decide (asy = 0) && (blkC k.N sc scope (ownOf k own) && (tgSub own tg && (chkTg k (relS scope sc) (fun x => scope.names.lookup x == some .cell) tg t && (chkE k it sc (some t) ie && (notSet ie && ((match ifs with
      | [] => isNil test
      | [c] => !isNil test && chkE k test (relS scope sc) none c
      | _ => false) && chkE k elt (relS scope sc) none ee))))))
  | .rng1 a, sc, some _, .Call (.Name x _) [ea] [] _ => decide (x = Str.ofString "range") && (gl sc x && (notStar ea && chkE k a sc none ea))
  | .rng2 a b, sc, some _, .Call (.Name x _) [ea, eb] [] _ => decide (x = Str.ofString "range") && (gl sc x && (notStar ea && (notStar eb && (chkE k a sc none ea && chkE k b sc none eb))))
  | .zip a b, sc, some t, .Call (.Name x _) [ea, eb] [] _ => isTupE t && (decide (x = Str.ofString "zip") && (gl sc x && (notStar ea && (notStar eb && (chkE k a sc none ea && chkE k b sc none eb)))))
  | .enum a, sc, some t, .Call (.Name x _) [ea] [] _ => isTupE t && (decide (x = Str.ofString "enumerate") && (gl sc x && (notStar ea && chkE k a sc none ea)))
  | .emp, _, _, .Dict [] [] _ => true
  | .ceq n a b, sc, _, .Compare ea [op] [eb] _ => decide (op = (if n then CmpOp.NotEq else CmpOp.Eq)) && (k.fs.contains ("==", 2) && (notSet eb && (chkE k a sc none ea && chkE k b sc none eb)))
  | _, _, _, _ => false
def chkEs (k : Kn) : E → Scope → List PySem.Expr → Bool
  | .nil, _, [] => true
  | .cons a as, sc, e :: es => notStar e && (chkE k a sc none e && chkEs k as sc es)
  | _, _, _ => false
end
end Fm

/-! FmF: expressions compute what my syntax says. -/
namespace Fm
open PySem PySem.Spec PyProof.Rows L2

/-- how a result lies: a new list, or a value -/
def RelR (W : Wd) (Z : Addr → Prop) (H0 : Hp) (G : Gh) (H : Hp) (v : V) (d : D) : Prop := match d with
  | .cell xs => ∃ p vs, v = .ref p ∧ H0 p = none ∧ H p = some (.lst vs) ∧ G p = none ∧ RelL W (fun q => Z q ∨ q = p) G H vs xs
  | d => Rel W Z G H v d
theorem Rel.rr {W : Wd} {Z : Addr → Prop} {H0 : Hp} {G : Gh} {H : Hp} {v : V} {d : D} (r : Rel W Z G H v d) : RelR W Z H0 G H v d := by
  cases d with
  | cell xs => cases r
  | _ => exact r
/-- a function's promise: what F says of the data -/
def spF (W : Wd) (F : Fns) (f : String) : Sp := fun vs H Q _ => ∃ Z G ds, GInv W G H ∧ ZOk Z G H ∧ RelL W Z G H vs ds ∧ (F f ds).wp (fun d => ∀ G' H' v, Ext G H G' H' → GInv W G' H' → RelR W Z H G' H' v d → Q v H')
def blts : List Str := ["len", "tuple", "list", "sorted", "all", "any", "min", "max", "sum", "abs", "int", "bool", "str", "range", "zip", "enumerate", "isinstance", "repr", "set", "dict"]
/-- what Crowd.__eq__ promises -/
def spCr (W : Wd) : Sp := fun vs H Q _ => ∃ Z G a b n ts ns n2 ts2 ns2, GInv W G H ∧ ZOk Z G H ∧ vs = [.ref a, .ref b] ∧ Rel W Z G H (.ref a) (.crowd n ts ns) ∧ Rel W Z G H (.ref b) (.crowd n2 ts2 ns2) ∧
  ∀ G' H', Ext G H G' H' → GInv W G' H' → Q (.bl (decide (n = n2 ∧ ts = ts2 ∧ ns = ns2))) H'
/-- crowds have their own ==, and object's != -/
structure EqFn (W : Wd) (P : Program) (w : World) (K : PySem.W.Frag) (mg : Str → Option Value) (base : Heap) (c : Nat) : Prop where
  ex : ∃ f fd ps, PySem.W.findIn K (.ref W.C) "__eq__" = some (some (.ref f)) ∧ PySem.W.isFn K (.ref f) = true ∧ Binds K fd ps [] ∧ FnOk P w K mg base CX0 c f fd ps (spCr W)
  ne : PySem.W.findIn K (.ref W.C) "__ne__" = some (some (.builtin "object.__ne__"))
  mro : PySem.W.mroIn K W.C (.type "object") = some true
/-- a function, or a class to be made -/
def FnA (W : Wd) (F : Fns) (X : Cx) (f : String) (n : Nat) : Prop := ∃ a, X.mg (Str.ofString f) = some (.ref a) ∧
  ((∃ kk fd ps, Room kk X.A ∧ PySem.W.keepIn X.K (.ref a) = true ∧ Binds X.K fd ps [] ∧ FnOk X.prog X.w X.K X.mg X.base CX0 kk a fd ps (spF W F f)) ∨
   (∃ kk ini fd ps sp, Mk X.K a ini ∧ Room (kk + 1) X.A ∧ Binds X.K fd ps [] ∧ FnOk X.prog X.w X.K X.mg X.base CX0 kk ini fd ps sp ∧
      ∀ vs H Q, spF W F f vs H Q E0 → ∀ x dx, H x = none → H dx = none → dx ≠ x → sp (.ref x :: (vs ++ [])) (upd (upd H dx (.own x)) x (.ins a dx [])) (fun v H2 => v = .non ∧ Q (.ref x) H2) E0))
def FnC (W : Wd) (F : Fns) (X : Cx) (f : String) (n : Nat) : Prop := (f ≠ "==" → FnA W F X f n) ∧ (f = "==" → ∃ c, Room (c + 1) X.A ∧ EqFn W X.prog X.w X.K X.mg X.base c)
structure Cn (W : Wd) (F : Fns) (k : Kn) (sc : Scope) (X : Cx) : Prop where
  K : X.K = W.K
  N : X.N = k.N
  nd : k.N.Nodup
  sc : X.env.scope = sc
  calm : X.calm = true
  un : X.A.units + 100 < cLine
  fs : ∀ p ∈ k.fs, FnC W F X p.1 p.2
  gi : ∀ p ∈ k.gi, ∃ t, X.mg (Str.ofString p.1) = some (.int p.2 t)
  bl : ∀ x ∈ blts, X.mg x = none
  cls : Cls W.K W.C
  noat : ∀ x ∈ (["persons", "ties", "needs", "looked"] : List Str), NoAttr W.K W.C x
theorem Cn.blk {W : Wd} {F : Fns} {k : Kn} {sc : Scope} {X : Cx} (c : Cn W F k sc X) (s : Shared) (H : Hp) (scope : Scope) (C : Addr) (cl : List (Str × Addr)) (fp : List Addr) :
    Cn W F k (relS scope sc) (X.blk s H scope (compEnvC scope cl C X.env) fp) := by
  refine ⟨c.K, c.N, c.nd, ?_, c.calm, c.un, c.fs, c.gi, c.bl, c.cls, c.noat⟩
  rw [← c.sc]
  rfl

/-- what follows an expression: a name's own list comes from the name -/
def KX (ws : List Nat) (b : Bool) (W : Wd) (Z : Addr → Prop) (G : Gh) (H : Hp) (env : Env) (σ : L2.St) (Q : VK) (d : D) : Prop := match d with
  | .cell xs => ∀ G' H' v i, Ext G H G' H' → GInv W G' H' → i ∈ ws → env[i]? = some (some (.cell xs)) → σ[i]? = some (some v) → Q v H'
  | d => KF b W Z G H Q d
def rdE (W : Wd) (F : Fns) (m : E) : TE := fun σ H Q => ∃ Z G env, SOk W Z G H env σ ∧ (ev F m env).wp (KX (walkeds m) m.fresh W Z G H env σ Q)
def rdA (W : Wd) (F : Fns) (m : E) : TA := fun σ H Q => ∃ Z G env, SOk W Z G H env σ ∧ (evs F m env).wp (fun ds => ∀ G' H' vs, Ext G H G' H' → GInv W G' H' → Paired (RelS W Z G' H') vs ds → Q vs H')
def rdT (W : Wd) (F : Fns) (m : E) : TT := fun σ H Q => ∃ Z G env, SOk W Z G H env σ ∧ (ev F m env >>= asB).wp (fun b => ∀ G' H', Ext G H G' H' → GInv W G' H' → Q b H')
section
variable {W : Wd} {F : Fns} {Z : Addr → Prop} {G : Gh} {H : Hp} {env : Env} {σ : L2.St} {Q : VK}
/-- what is wanted of any value -/
theorem SOk.kx {ws : List Nat} {b : Bool} {d : D} (s : SOk W Z G H env σ) (h : RQ W Z G H Q d) : KX ws b W Z G H env σ Q d := by
  cases d with
  | cell xs =>
    intro G' H' v i e g _ hi hv
    obtain ⟨v', hv', r⟩ := (s.ext e g).sl i _ hi
    rw [hv] at hv'
    cases hv'
    exact h G' H' v e g r
  | _ => exact RQ.kf s.zo h
theorem SOk.toE {m : E} (s : SOk W Z G H env σ) (h : (ev F m env).wp (RQ W Z G H Q)) : rdE W F m σ H Q := ⟨Z, G, env, s, T.wp_imp h fun _ q => s.kx q⟩
/-- a sequence: first a -/
theorem SOk.first {α : Type} {a : E} {f : D → T α} {q : α → Prop} {R : V → Hp → Prop} (s : SOk W Z G H env σ) (h : (ev F a env >>= f).wp q)
    (n : ∀ d G' H' v, Ext G H G' H' → GInv W G' H' → SOk W Z G' H' env σ → RelS W Z G' H' v d → (f d).wp q → R v H') : rdE W F a σ H R :=
  s.toE (T.wp_imp (T.wp_bind.mp h) fun d hd G' H' v e g r => n d G' H' v e g (s.ext e g) r hd)
theorem KX.step {ws : List Nat} {b : Bool} {d : D} {G' : Gh} {H' : Hp} (e : Ext G H G' H') (g : GInv W G' H') (h : KX ws b W Z G H env σ Q d) : KX ws b W Z G' H' env σ Q d := by
  cases d with
  | cell xs => exact fun G2 H2 v i e2 g2 => h G2 H2 v i (e.trans e2) g2
  | _ => exact KF.step e g h
theorem KX.sub {ws ws' : List Nat} {b b' : Bool} {d : D} (zo : ZOk Z G H) (hw : ∀ i ∈ ws', i ∈ ws) (h : KX ws b W Z G H env σ Q d) (hb : b = false) : KX ws' b' W Z G H env σ Q d := by
  subst hb
  cases d with
  | cell xs => exact fun G2 H2 v i e2 g2 hi => h G2 H2 v i e2 g2 (hw i hi)
  | _ => exact RQ.kf zo h
theorem KX.kf {ws : List Nat} {b : Bool} {d : D} (h : KX ws b W Z G H env σ Q d) (n : d.isCell = false) : KF b W Z G H Q d := by
  cases d with
  | cell xs => cases n
  | _ => exact h
theorem KX.at {ws : List Nat} {b : Bool} {d : D} {v : V} (gi : GInv W G H) (r : Rel W Z G H v d) (n : ∀ xs, d ≠ .lst xs) (h : KX ws b W Z G H env σ Q d) : Q v H := by
  cases d with
  | cell xs => cases r
  | lst xs => exact absurd rfl (n xs)
  | _ => exact KF.at gi r.s n h
end
section
variable {W : Wd} {F : Fns} {k : Kn} {sc : Scope} {X : Cx}
theorem PE.imp {e : Expr} {t t' : TE} (h : PE X e t) (i : ∀ σ H Q, t' σ H Q → t σ H Q) : PE X e t' := ⟨fun pins s σ H Q I q => h.run pins s σ H Q I (i σ H Q q)⟩
theorem PT.imp {e : Expr} {t t' : TT} (h : PT X e t) (i : ∀ σ H Q, t' σ H Q → t σ H Q) : PT X e t' := ⟨fun pins s σ H Q I q => h.run pins s σ H Q I (i σ H Q q)⟩
theorem PW.imp {e : Expr} {t t' : TT} (h : PW X e t) (i : ∀ σ H Q, t' σ H Q → t σ H Q) : PW X e t' := ⟨fun wh pins s σ H Q I q => h.run wh pins s σ H Q I (i σ H Q q)⟩
theorem PA.imp {es : List Expr} {t t' : TA} (h : PA X es t) (i : ∀ σ H Q, t' σ H Q → t σ H Q) : PA X es t' := ⟨fun ps pins s σ H Q I q => h.run ps pins s σ H Q I (i σ H Q q)⟩
theorem vis_ok {x : Str} (c : Cn W F k sc X) (h : vis sc x = true) : Vis X.env.scope x := by
  rw [c.sc]
  unfold vis at h
  simp only [Bool.or_eq_true, decide_eq_true_eq] at h
  exact h
theorem gl_ok {x : Str} (c : Cn W F k sc X) (h : gl sc x = true) : Gl X x := by
  unfold Gl Env.kindOf
  rw [c.sc]
  exact of_decide_eq_true h
theorem plain_ok {x : Str} (h : plainNm x = true) : (x == ("__debug__" : Str)) = false ∧ (x == ("__classdict__" : Str)) = false := by
  unfold plainNm at h
  simp only [Bool.and_eq_true, Bool.not_eq_true'] at h
  exact h
theorem star_ok {env : PySem.Env} {e : Expr} (h : notStar e = true) (es : List Expr) : starEach (e :: es) env = (false, eval e env) :: starEach es env := by
  cases e <;> first | rfl | cases h
theorem stars_ok {env : PySem.Env} {pos : Pos} : ∀ {m : E} {es : List Expr}, chkEs k m sc es = true → (backTo pos (starEach es env)).any (·.1) = false
  | .nil, [], _ => rfl
  | .cons a as, e :: es, h => by
    unfold chkEs at h
    rw [Bool.and_eq_true, Bool.and_eq_true] at h
    rw [star_ok h.1]
    show ((false : Bool) || (backTo pos (starEach es env)).any (·.1)) = false
    rw [stars_ok (m := as) h.2.2]
    rfl
  | .nil, _ :: _, h => by cases h
  | .cons _ _, [], h => by cases h
theorem nomark_ok {op : CmpOp} {e : Expr} (h : notSet e = true) : behindInMarks op e = false := by
  cases e <;> first | rfl | cases h
theorem opR_wish {f : Value → Value → Sem Value} {r : R2} (h : OpR X f r) : OpR X f r := h
/-- my operators at the machine's -/
theorem binR (c : Cn W F k sc X) {o : O2} {op : Operator} (h : binOf o = some op) : OpR X (binaryOp op) (rO W.K o) := by
  have e := c.K
  cases o <;> cases h
  · rw [← e]; exact op_addD
  · exact op_sub
  · exact op_mulD
  · exact op_mod
  · exact op_fdiv
  · exact op_pow
theorem cmpR (c : Cn W F k sc X) {o : O2} {op : CmpOp} (h : cmpOf o = some op) : OpR X (compareOp op) (rO W.K o) := by
  have e := c.K
  have hu := c.un
  cases o <;> cases h
  · rw [← e]; exact op_eqD (by omega)
  · rw [← e]; exact op_neD (by omega)
  · rw [← e]; exact op_ltD (by omega)
  · exact op_le
  · exact op_gt
  · exact op_ge
  · rw [← e]; exact op_inA (by omega)
  · rw [← e]; exact op_notInA (by omega)
  · exact op_isD
  · exact op_notD
end
end Fm

/-! FmG: expressions, one rule a construct. -/
namespace Fm
open PySem PySem.Spec PyProof.Rows L2
section
variable {W : Wd} {F : Fns} {k : Kn} {sc : Scope} {X : Cx}
theorem paired_rel {Z : Addr → Prop} {G : Gh} {H : Hp} : ∀ {vs : List V} {ds : List D}, Paired (RelS W Z G H) vs ds → (ds.any D.isCell) = false → RelL W Z G H vs ds
  | _, _, .nil, _ => .nil
  | _, _, .cons r t, h => by
    rw [List.any_cons, Bool.or_eq_false_iff] at h
    exact .cons (r.r h.1) (paired_rel t h.2)
theorem g_var {i : Nat} {sc' : Option Expr} {e : Expr} (c : Cn W F k sc X) (h : chkE k (.var i) sc sc' e = true) : PE X e (rdE W F (.var i)) := by
  unfold chkE at h
  cases e <;> first | cases h | skip
  rename_i x pos
  simp only [Bool.and_eq_true, decide_eq_true_eq] at h
  obtain ⟨h1, h2, h3⟩ := h
  obtain ⟨h4, h5⟩ := plain_ok h3
  refine PE.imp (pe_var (i := i) (by rw [c.N]; exact h1) (vis_ok c h2) h4 h5) fun σ H Q q => ?_
  obtain ⟨Z, G, env, s, w⟩ := q
  have w' : (getv env i).wp (KX [i] false W Z G H env σ Q) := w
  unfold getv at w'
  split at w'
  · rename_i d hd
    obtain ⟨v, hv, r⟩ := s.sl i d hd
    refine ⟨v, hv, ?_⟩
    cases d with
    | cell xs => exact w' G H v i (Ext.refl G H) s.gi List.mem_cons_self hd hv
    | _ => exact RQ.at s.gi r (show RQ W Z G H Q _ from w')
  · exact w'.elim
theorem g_gint {y : String} {j : Int} {sc' : Option Expr} {e : Expr} (c : Cn W F k sc X) (h : chkE k (.gint y j) sc sc' e = true) : PE X e (rdE W F (.gint y j)) := by
  unfold chkE at h
  cases e <;> first | cases h | skip
  rename_i x pos
  simp only [Bool.and_eq_true, decide_eq_true_eq] at h
  obtain ⟨h1, h2, h3, h4⟩ := h
  subst h1
  obtain ⟨h5, h6⟩ := plain_ok h4
  obtain ⟨t, ht⟩ := c.gi (y, j) (List.contains_iff_mem.mp h3)
  refine PE.imp (pe_glob (v := .int j) (gl_ok c h2) ht ⟨t, rfl⟩ h5) fun σ H Q q => ?_
  obtain ⟨Z, G, env, s, w⟩ := q
  exact KX.at s.gi (.int j) (fun _ z => nomatch z) w
theorem g_const {m : E} {d : D} {e : Expr} {v : V} (hp : PE X e (tC v)) (he : ∀ env, ev F m env = T.ret d) (r : ∀ Z G H, Rel W Z G H v d) (n : ∀ xs, d ≠ .lst xs) : PE X e (rdE W F m) :=
  PE.imp hp fun σ H Q q => by
    obtain ⟨Z, G, env, s, w⟩ := q
    rw [he] at w
    exact KX.at s.gi (r Z G H) n w
theorem g_non {sc' : Option Expr} {e : Expr} (h : chkE k .non sc sc' e = true) : PE X e (rdE W F .non) := by
  unfold chkE at h
  cases e <;> first | cases h | skip
  rename_i v kk pos
  cases v <;> first | cases h | skip
  exact g_const pe_non (fun _ => rfl) (fun _ _ _ => .non) (fun _ z => nomatch z)
theorem g_bl {b : Bool} {sc' : Option Expr} {e : Expr} (h : chkE k (.bl b) sc sc' e = true) : PE X e (rdE W F (.bl b)) := by
  unfold chkE at h
  cases e <;> first | cases h | skip
  rename_i v kk pos
  cases v <;> first | cases h | skip
  rename_i b'
  rw [eq_of_beq h]
  exact g_const pe_bl (fun _ => rfl) (fun _ _ _ => .bl _) (fun _ z => nomatch z)
theorem g_int {i : Int} {sc' : Option Expr} {e : Expr} (h : chkE k (.int i) sc sc' e = true) : PE X e (rdE W F (.int i)) := by
  unfold chkE at h
  cases e <;> first | cases h | skip
  rename_i v kk pos
  cases v <;> first | cases h | skip
  rw [of_decide_eq_true h]
  exact g_const pe_int (fun _ => rfl) (fun _ _ _ => .int _) (fun _ z => nomatch z)
theorem g_str {i : String} {sc' : Option Expr} {e : Expr} (h : chkE k (.str i) sc sc' e = true) : PE X e (rdE W F (.str i)) := by
  unfold chkE at h
  cases e <;> first | cases h | skip
  rename_i v kk pos
  cases v <;> first | cases h | skip
  rw [of_decide_eq_true h]
  exact g_const pe_str (fun _ => rfl) (fun _ _ _ => .str _) (fun _ z => nomatch z)
/-- displays -/
theorem g_tup {as : E} {es : List Expr} {kk : Nat} {pos : Pos} (ha : PA X es (rdA W F as)) : PE X (.Tuple es kk pos) (rdE W F (.tup as)) := by
  refine PE.imp (pe_tup ha) fun σ H Q q => ?_
  obtain ⟨Z, G, env, s, w⟩ := q
  have w' := T.wp_bind.mp (show (evs F as env >>= fun ds => mkTup ds).wp _ from w)
  refine ⟨Z, G, env, s, T.wp_imp w' fun ds hd G' H' vs e g r => ?_⟩
  unfold mkTup at hd
  rcases wp_ite hd with ⟨_, z⟩ | ⟨hn, z⟩
  · exact z.elim
  simp only [Bool.or_eq_true, decide_eq_true_eq, not_or, Bool.not_eq_true] at hn
  have r' := paired_rel r hn.1
  have s' := s.ext e g
  refine ⟨?_, fun p hp => ?_⟩
  · rw [r'.length, sizeLine_eq]
    omega
  · have z' : RQ W Z G H Q (.tup ds) := KF.rq (KX.kf z rfl) (fun _ z => nomatch z)
    exact RQ.layT g hp r' (z'.step e)
theorem g_lst {as : E} {es : List Expr} {pos : Pos} (ha : PA X es (rdA W F as)) : PE X (.List es pos) (rdE W F (.lst as)) := by
  refine PE.imp (pe_lst ha) fun σ H Q q => ?_
  obtain ⟨Z, G, env, s, w⟩ := q
  have w' := T.wp_bind.mp (show (evs F as env >>= fun ds => mkLst ds).wp _ from w)
  refine ⟨Z, G, env, s, T.wp_imp w' fun ds hd G' H' vs e g r => ?_⟩
  unfold mkLst at hd
  rcases wp_ite hd with ⟨_, z⟩ | ⟨hn, z⟩
  · exact z.elim
  simp only [Bool.or_eq_true, decide_eq_true_eq, not_or, Bool.not_eq_true] at hn
  have r' := paired_rel r hn.1
  refine ⟨?_, fun p hp => ?_⟩
  · rw [r'.length, sizeLine_eq]
    omega
  · exact RN.lay g hp r' (RN.step e g (show RN W Z G H Q ds from z))
/-- two places -/
theorem two_in {a b : E} {o : D → D → T D} {bf : Bool} {ws : List Nat} {σ : L2.St} {H : Hp} {Q : VK} {r : R2} {Z : Addr → Prop} {G : Gh} {env : Env} (s : SOk W Z G H env σ)
    (w : (do let x ← ev F a env; let y ← ev F b env; o x y).wp (KX ws bf W Z G H env σ Q))
    (n : ∀ x y G' H' dx dy, GInv W G' H' → ZOk Z G' H' → RelS W Z G' H' x dx → RelS W Z G' H' y dy → (o dx dy).wp (KF bf W Z G' H' Q) → r x y H' Q)
    (nc : ∀ dx dy d, (o dx dy).wp (fun e => e = d) → True) (hc : ∀ dx dy q, (o dx dy).wp q → (o dx dy).wp fun d => q d ∧ d.isCell = false) : tOp r (rdE W F a) (rdE W F b) σ H Q := by
  refine s.first w fun dx G1 H1 x e1 g1 s1 r1 w1 => ?_
  refine s1.first w1 fun dy G2 H2 y e2 g2 s2 r2 w2 => ?_
  exact n x y G2 H2 dx dy g2 s2.zo (r1.ext e2 s1.zo) r2 (T.wp_imp (hc _ _ _ w2) fun d ⟨q, z⟩ => KF.step (e1.trans e2) g2 (KX.kf q z))
theorem op2_nocell {o : O2} {a b : D} {q : D → Prop} (h : (op2 o a b).wp q) : (op2 o a b).wp fun d => q d ∧ d.isCell = false := by
  have lift : ∀ {t : T Bool} {f : Bool → Bool} {q : D → Prop}, (t >>= fun c => T.ret (D.bl (f c))).wp q → (t >>= fun c => T.ret (D.bl (f c))).wp fun d => q d ∧ d.isCell = false := fun {t f q} h => T.wp_bind.mpr (T.wp_imp (T.wp_bind.mp h) fun c hc => ⟨hc, rfl⟩)
  have ite : ∀ {c : Prop} [Decidable c] {d : D} {q : D → Prop}, d.isCell = false → (if c then T.ret d else T.bad).wp q → (if c then T.ret d else T.bad).wp fun d => q d ∧ d.isCell = false := fun {c _ d q} n h => by
    obtain ⟨hc, h⟩ := wp_if h
    rw [if_pos hc]
    exact ⟨h, n⟩
  cases o with
  | add =>
    show (addD a b).wp _
    have h' : (addD a b).wp q := h
    unfold addD at h' ⊢
    split at h' <;> first
      | exact ⟨h', rfl⟩
      | exact ite rfl h'
      | skip
    split at h' <;> first
      | exact ite rfl h'
      | exact h'.elim
  | mul =>
    show (mulD a b).wp _
    have h' : (mulD a b).wp q := h
    unfold mulD at h' ⊢
    split at h' <;> first
      | exact ⟨h', rfl⟩
      | exact ite rfl h'
      | exact h'.elim
      | skip
    split at h' <;> first
      | exact ite rfl h'
      | exact h'.elim
  | sub => cases a <;> cases b <;> first | exact h.elim | exact ⟨h, rfl⟩
  | mod => cases a <;> cases b <;> first | exact h.elim | exact ite rfl h
  | fdiv => cases a <;> cases b <;> first | exact h.elim | exact ite rfl h
  | pow => cases a <;> cases b <;> first | exact h.elim | exact ite rfl h
  | eq => exact lift (t := eqD a b) (f := fun c => c) h
  | ne => exact lift (t := eqD a b) (f := fun c => !c) h
  | lt =>
    show (ltD a b).wp _
    have h' : (ltD a b).wp q := h
    unfold ltD at h' ⊢
    split at h' <;> first
      | exact ⟨h', rfl⟩
      | exact h'.elim
      | skip
    split at h' <;> first
      | exact ⟨h', rfl⟩
      | exact h'.elim
  | le => cases a <;> cases b <;> first | exact h.elim | exact ⟨h, rfl⟩
  | gt => cases a <;> cases b <;> first | exact h.elim | exact ⟨h, rfl⟩
  | ge => cases a <;> cases b <;> first | exact h.elim | exact ⟨h, rfl⟩
  | isin =>
    have h' : (match b.its with
      | some xs => (do let c ← inD a xs; T.ret (D.bl c))
      | none => T.bad).wp q := h
    show (match b.its with
      | some xs => (do let c ← inD a xs; T.ret (D.bl c))
      | none => T.bad).wp _
    cases e : b.its with
    | none => rw [e] at h'; exact h'.elim
    | some xs => rw [e] at h'; exact lift (t := inD a xs) (f := fun c => c) h'
  | notin =>
    have h' : (match b.its with
      | some xs => (do let c ← inD a xs; T.ret (D.bl (!c)))
      | none => T.bad).wp q := h
    show (match b.its with
      | some xs => (do let c ← inD a xs; T.ret (D.bl (!c)))
      | none => T.bad).wp _
    cases e : b.its with
    | none => rw [e] at h'; exact h'.elim
    | some xs => rw [e] at h'; exact lift (t := inD a xs) (f := fun c => !c) h'
  | is_ => cases b <;> cases a <;> first | exact h.elim | exact ⟨h, rfl⟩
  | isnot => cases b <;> cases a <;> first | exact h.elim | exact ⟨h, rfl⟩
theorem o_fresh (o : O2) (a b : E) : (E.op o a b).fresh = true ∨ (E.op o a b).fresh = false := by cases (E.op o a b).fresh <;> simp
theorem g_op_in {o : O2} {a b : E} {σ : L2.St} {H : Hp} {Q : VK} (q : rdE W F (.op o a b) σ H Q) : tOp (rO W.K o) (rdE W F a) (rdE W F b) σ H Q := by
  obtain ⟨Z, G, env, s, w⟩ := q
  exact two_in (o := op2 o) s w (fun x y G' H' dx dy gi zo rx ry h => op_ok gi zo rx ry h) (fun _ _ _ _ => trivial) fun _ _ _ h => op2_nocell h
theorem g_bin (c : Cn W F k sc X) {o : O2} {op : Operator} {a b : E} {ea eb : Expr} {pos : Pos} (ho : binOf o = some op) (ha : PE X ea (rdE W F a)) (hb : PE X eb (rdE W F b)) : PE X (.BinOp ea op eb pos) (rdE W F (.op o a b)) :=
  PE.imp (pe_op (binR c ho) ha hb) fun _ _ _ q => g_op_in q
theorem g_cmp (c : Cn W F k sc X) {o : O2} {op : CmpOp} {a b : E} {ea eb : Expr} {pos : Pos} (ho : cmpOf o = some op) (hs : notSet eb = true) (ha : PE X ea (rdE W F a)) (hb : PE X eb (rdE W F b)) : PE X (.Compare ea [op] [eb] pos) (rdE W F (.op o a b)) :=
  PE.imp (pe_cmpR (cmpR c ho) ha hb (nomark_ok hs)) fun _ _ _ q => g_op_in q
/-- a test whose value is known to be mine -/
theorem rdT_in {m : E} {σ : L2.St} {H : Hp} {Q : Bool → Hp → Prop} (q : rdT W F m σ H Q) : rdE W F m σ H fun x H' => ∃ k, x = .bl k ∧ Q k H' := by
  obtain ⟨Z, G, env, s, w⟩ := q
  refine s.toE (T.wp_imp (T.wp_bind.mp w) fun d hd G' H' v e g r => ?_)
  cases d with
  | bl b =>
    rw [r.bl]
    exact ⟨b, rfl, hd G' H' e g⟩
  | _ => exact hd.elim
theorem t_val {m : E} {e : Expr} (h : PE X e (rdE W F m)) (he : ∀ whole, isTrue e X.env whole = (do let v ← whole; standAt e.pos; holding [v] (truthy v))) : PT X e (rdT W F m) :=
  PT.imp (pt_val h he) fun _ _ _ q => rdT_in q
theorem t_cmp (c : Cn W F k sc X) {o : O2} {op : CmpOp} {a b : E} {ea eb : Expr} {pos : Pos} (ho : cmpOf o = some op) (hs : notSet eb = true) (ha : PE X ea (rdE W F a)) (hb : PE X eb (rdE W F b)) : PT X (.Compare ea [op] [eb] pos) (rdT W F (.op o a b)) :=
  PT.imp (pt_cmpR (cmpR c ho) ha hb (nomark_ok hs)) fun σ H Q q => g_op_in (rdT_in q)
end
end Fm

/-! FmG0: == and != of crowds. -/
namespace Fm
open PySem PySem.Spec PyProof.Rows L2
section
variable {prog : Program} {w : World} {A : Around} {E : Value → Shared → Prop} {s : Shared} {K : PySem.W.Frag} {x C L f : Addr} {h₀ : Heap} {m : Str → Option Value} {ox : Obj} {od : Option Obj} {b tb : Value}
theorem ifBound_ne {M : Model} {args : List Value} {Q : Option Value → Shared → Prop} (X : K.In s.heap) (I : PySem.W.InstAt s.heap x ox C od) (hs : PySem.W.findIn K (.ref C) "__ne__" = some (some (.builtin "object.__ne__")))
    (h : wpAny M A (call (.builtin "object.__ne__") (.ref x :: args)) (fun v => Q (some v)) E s) : wpAny M A (callSpecialIfBound? (.ref x) "__ne__" args) Q E s := by
  simp only [callSpecialIfBound?, bindSpecialIfBound?]
  refine wpAny_holding (wpAny_bind (wpAny_bind (wpAny_bind (I.type.here ((PySem.W.looks_findIn X hs).here ?_)))))
  simp only [PySem.F.cmp_object.ne.bind]
  refine wpAny_bind (wpAny_askSetting (wpAny_ite ?_))
  have fin : wpAny M A (call (.builtin "object.__ne__") ([.ref x] ++ args) >>= fun v => pure (some v)) Q E s := wpAny_bind (wpAny_mono h (fun v s' h' => wpAny_pure h') fun _ _ h' => h')
  split
  · exact wpAny_bind (wpAny_pure (wpAny_pure fin))
  · exact wpAny_tryCatch (wpAny_bind (wpAny_pure (wpAny_pure fin)))
theorem objNe_K {Q : Fin → Shared → Prop} (X : K.In s.heap) (I : PySem.W.InstAt s.heap x ox C od) (hu : A.units < cLine) (hs : PySem.W.findIn K (.ref C) "__eq__" = some (some (.ref f))) (hf : PySem.W.isFn K (.ref f) = true)
    (hcall : wpAny (model prog w) A (call (.ref f) [.ref x, b]) (fun v s' => ∃ r, v = .bool r ∧ Q (.done (.ret (.bool (!r)))) s') E s) :
    wpAny (model prog w) A (Builtin.«object.__ne__» ⟨[.ref x, b], []⟩) Q E s := by
  unfold Builtin.«object.__ne__»
  repeat (first
    | with_reducible refine wpAny_cRoomFor hu ?_
    | (refine wpAny_bind (m := callSpecialIfBound? (.ref x) (Str.ofString "__eq__") [b])
        (PySem.W.ifBound_K X I hs hf (wpAny_mono hcall (fun v s' hr => by
          obtain ⟨r, rfl, hq⟩ := hr
          repeat (first | exact hq | exact wpAny_pure hq | exact wpAny_truthy_bool hq | (refine wpAny_bind (m := truthy (.bool _)) (wpAny_truthy_bool ?_)) | wp_step)) fun _ _ e => e)))
    | wp_step)
theorem ne_K {Q : Value → Shared → Prop} (hu : A.units + 1 < cLine) (F : PyProof.Rows.Fr h₀ L s.heap m) (X₀ : K.In h₀) (I : PySem.W.InstAt s.heap x ox C od) (hb : PySem.W.Looks (model prog w) s.heap (typeOf b) tb) (hn : PySem.W.notFirst K C tb = true)
    (hs : PySem.W.findIn K (.ref C) "__eq__" = some (some (.ref f))) (hf : PySem.W.isFn K (.ref f) = true) (hne : PySem.W.findIn K (.ref C) "__ne__" = some (some (.builtin "object.__ne__"))) (hm : PySem.W.mroIn K C (.type "object") = some true)
    (h : wpAny (model prog w) A.in1 (call (.ref f) [.ref x, b]) (fun v s' => ∃ r, v = .bool r ∧ Q (.bool (!r)) s') E s) : wpAny (model prog w) A (richCompare .NotEq (.ref x) b) Q E s := by
  have X := X₀.keeps F.keep
  have sub : PySem.W.Looks (model prog w) s.heap (isInstance (.ref x) (.type "object")) true := I.type.andThen (PySem.W.looks_mroIn X hm)
  have one : wpAny (model prog w) A (tryCompare (.ref x) "__ne__" b) (fun r s' => ∃ v, r = some v ∧ Q v s') E s := by
    unfold tryCompare
    refine wpAny_bind (ifBound_ne X I hne (wpAny_call (codeAny_call_builtin PySem.F.cmp_object.ne.plain PySem.F.cmpEntry_ne
      (@PySem.W.check_slot (model prog w) _ _ s "object.__ne__" "object" "__ne__" (.ref x) [b] [] _ PySem.F.cmpKind_ne PySem.F.cmpSplit_ne sub (PySem.F.cmpArgs_ne (.ref x) b)
        (objNe_K (A := A.in1) X I hu hs hf (wpAny_mono h (fun v s' hv => ?_) fun _ _ e => e))))))
    obtain ⟨r, rfl, hq⟩ := hv
    exact ⟨r, rfl, wpAny_pure ⟨_, rfl, hq⟩⟩
  unfold richCompare
  simp only [oneThing_ref]
  rw [cmpInfo_NotEq]
  dsimp only
  refine wpAny_holding (wpAny_bind (wpAny_cRoomFor (Nat.lt_of_succ_lt hu) ?_))
  refine wpAny_bind (I.type.here (wpAny_bind (hb.here ?_)))
  split
  · rename_i q
    have e : PySem.W.subIn K tb (.ref C) = some false := by
      rcases Bool.or_eq_true_iff.mp hn with e | e
      · rw [beq_iff_eq.mp e] at q; simp at q
      · exact beq_iff_eq.mp e
    refine wpAny_bind ((PySem.W.looks_subIn X e).here ?_)
    simp only [Bool.false_eq_true, if_false]
    refine wpAny_bind (wpAny_mono one (fun r s' z => ?_) fun _ _ e => e)
    obtain ⟨v, rfl, hq⟩ := z
    exact wpAny_pure hq
  · refine wpAny_bind (wpAny_pure ?_)
    simp only [Bool.false_eq_true, if_false]
    refine wpAny_bind (wpAny_mono one (fun r s' z => ?_) fun _ _ e => e)
    obtain ⟨v, rfl, hq⟩ := z
    exact wpAny_pure hq
end
section
variable {W : Wd} {F : Fns} {k : Kn} {sc : Scope} {X : Cx} {c : Nat}
/-- the callee runs, somewhere below the body -/
theorem call_cr {f : Addr} {fd : FuncData} {ps : List Str} {pins : List (Addr × Obj)} {σ : L2.St} {H : Hp} {s : Shared} {A : Around} {Z : Addr → Prop} {G : Gh} {a b : Addr} {n n2 : Nat} {ts ts2 : List (Nat × Nat)} {ns ns2 : List Nat}
    (hb : Binds X.K fd ps []) (hF : FnOk X.prog X.w X.K X.mg X.base CX0 c f fd ps (spCr W)) (hr : Room c A) (fr : A.frames = X.A.frames) (I : Inv X pins σ H s) (g : GInv W G H) (zo : ZOk Z G H) (ra : Rel W Z G H (.ref a) (.crowd n ts ns)) (rb : Rel W Z G H (.ref b) (.crowd n2 ts2 ns2)) :
    wpAny (model X.prog X.w) A (call (.ref f) [.ref a, .ref b]) (fun v s' => v = .bool (decide (n = n2 ∧ ts = ts2 ∧ ns = ns2)) ∧ ∃ G' H', Inv X pins σ H' s' ∧ Ext G H G' H' ∧ GInv W G' H') X.xe s := by
  have hsp : spCr W [.ref a, .ref b] H (fun v H' => v = .bl (decide (n = n2 ∧ ts = ts2 ∧ ns = ns2)) ∧ ∃ G', Ext G H G' H' ∧ GInv W G' H') E0 := ⟨Z, G, a, b, n, ts, ns, n2, ts2, ns2, g, zo, rfl, ra, rb, fun G' H' e g => ⟨rfl, G', e, g⟩⟩
  have e0 : Env0 X.prog X.w X.K X.mg X.base A X.stack s H := by
    have e := I.env0
    exact ⟨by rw [fr]; exact e.frames, e.mod, e.bs, e.bsz, e.funs, e.frf, e.hok, e.bare⟩
  have hl := hF.len _ _ _ _ hsp
  have r2 : Vals [V.ref a, V.ref b] [Value.ref a, Value.ref b] := .cons rfl (.cons rfl .nil)
  refine wpAny_call (codeAny_mono (hF.run A X.stack s H ⟨[.ref a, .ref b], []⟩ [.ref a, .ref b] [.ref a, .ref b] _ E0 hr e0 (by
    have := hb s [.ref a, .ref b] I.kIn (by simpa using hl)
    simpa using this) r2 hsp) fun r s' hq => ?_)
  cases r with
  | error e => exact hq.elim
  | ok fl =>
    cases fl with
    | ret w =>
      obtain ⟨z, H', I', rz, ez, G', ex, g'⟩ := I.after hq
      subst ez
      cases rz
      exact ⟨rfl, G', H', I', ex, g'⟩
    | next => exact False.elim hq
    | brk => exact False.elim hq
    | cont => exact False.elim hq
def rCr (W : Wd) (n : Bool) : R2 := fun x y H Q => ∃ Z G n1 ts ns n2 ts2 ns2, GInv W G H ∧ ZOk Z G H ∧ Rel W Z G H x (.crowd n1 ts ns) ∧ Rel W Z G H y (.crowd n2 ts2 ns2) ∧ ∀ G' H', Ext G H G' H' → GInv W G' H' → Q (.bl (if n1 = n2 ∧ ts = ts2 ∧ ns = ns2 then !n else n)) H'
theorem op_cr (hK : X.K = W.K) (hr : Room (c + 1) X.A) (e : EqFn W X.prog X.w X.K X.mg X.base c) (n : Bool) : OpR X (compareOp (if n then CmpOp.NotEq else CmpOp.Eq)) (rCr W n) := by
  obtain ⟨⟨f, fd, ps, hs, hf, hb, hF⟩, hne, hm⟩ := e
  intro pins s σ H x y v u Q I rx ry h
  obtain ⟨Z, G, n1, ts, ns, n2, ts2, ns2, gi, zo, ra, rb, q⟩ := h
  have ra0 := ra
  have rb0 := rb
  cases ra with
  | @crowd a dx t l1 l2 _ _ _ ha ga gl r1 r2 =>
  cases rb with
  | @crowd b dy t2 u2 l3 _ _ _ hb' gb gl2 r3 r4 =>
  cases (show v = Value.ref a from rx)
  cases (show u = Value.ref b from ry)
  obtain ⟨mA, J, _⟩ := ins_get I.hok ha
  obtain ⟨mB, J', _⟩ := ins_get I.hok hb'
  obtain ⟨od, J, _⟩ := J.look
  obtain ⟨od', J', _⟩ := J'.look
  obtain ⟨m, hFr⟩ := I.fr
  have hun := hr.un
  cases n with
  | false =>
    show wpAny (model X.prog X.w) X.A (richCompare .Eq (.ref a) (.ref b)) (EP X pins σ Q) X.xe s
    refine PySem.W.cmp_K (op := .Eq) (tb := .ref W.C) (by omega) hFr I.ok.mod.kin J J'.type (by simp [PySem.W.notFirst]) hs hf ?_
    refine wpAny_mono (call_cr hb hF (hr.mono (Nat.le_succ c)) rfl I gi zo ra0 rb0) (fun v s' z => ?_) fun _ _ x => x
    obtain ⟨rfl, G', H', I', ex, g'⟩ := z
    refine (show EP X pins σ Q (.bool _) s' from ⟨.bl _, H', I', rfl, ?_⟩)
    have := q G' H' ex g'
    by_cases hd : n1 = n2 ∧ ts = ts2 ∧ ns = ns2
    · rw [if_pos hd] at this
      rw [decide_eq_true hd]
      exact this
    · rw [if_neg hd] at this
      rw [decide_eq_false hd]
      exact this
  | true =>
    show wpAny (model X.prog X.w) X.A (richCompare .NotEq (.ref a) (.ref b)) (EP X pins σ Q) X.xe s
    refine ne_K (tb := .ref W.C) (by omega) hFr I.ok.mod.kin J J'.type (by simp [PySem.W.notFirst]) hs hf hne hm ?_
    refine wpAny_mono (call_cr hb hF hr.in1 rfl I gi zo ra0 rb0) (fun v s' z => ?_) fun _ _ x => x
    obtain ⟨rfl, G', H', I', ex, g'⟩ := z
    refine ⟨_, rfl, .bl _, H', I', rfl, ?_⟩
    have := q G' H' ex g'
    by_cases hd : n1 = n2 ∧ ts = ts2 ∧ ns = ns2
    · rw [if_pos hd] at this
      rw [decide_eq_true hd]
      exact this
    · rw [if_neg hd] at this
      rw [decide_eq_false hd]
      exact this
theorem ceqD_wp {n : Bool} {a b : D} {q : D → Prop} (h : (ceqD n a b).wp q) : ∃ n1 ts ns n2 ts2 ns2, a = .crowd n1 ts ns ∧ b = .crowd n2 ts2 ns2 ∧ q (.bl (if n1 = n2 ∧ ts = ts2 ∧ ns = ns2 then !n else n)) := by
  unfold ceqD at h
  split at h
  · exact ⟨_, _, _, _, _, _, rfl, rfl, h⟩
  · exact h.elim
theorem ceq_in {n : Bool} {a b : E} {σ : L2.St} {H : Hp} {Q : VK} (q : rdE W F (.ceq n a b) σ H Q) : tOp (rCr W n) (rdE W F a) (rdE W F b) σ H Q := by
  obtain ⟨Z, G, env, s, w⟩ := q
  refine two_in (o := ceqD n) (bf := false) s w (fun x y G' H' dx dy gi zo rx ry h => ?_) (fun _ _ _ _ => trivial) fun dx dy q h => ?_
  · obtain ⟨n1, ts, ns, n2, ts2, ns2, rfl, rfl, h⟩ := ceqD_wp h
    refine ⟨Z, G', n1, ts, ns, n2, ts2, ns2, gi, zo, rx.r rfl, ry.r rfl, fun G2 H2 e1 g1 => ?_⟩
    exact KF.at g1 (Rel.bl _).s (fun _ z => nomatch z) (KF.step e1 g1 h)
  · obtain ⟨n1, ts, ns, n2, ts2, ns2, rfl, rfl, h⟩ := ceqD_wp h
    exact ⟨h, rfl⟩
theorem ceqR (c : Cn W F k sc X) (h : k.fs.contains ("==", 2) = true) (n : Bool) : OpR X (compareOp (if n then CmpOp.NotEq else CmpOp.Eq)) (rCr W n) := by
  obtain ⟨c2, hr, e⟩ := (c.fs ("==", 2) (List.contains_iff_mem.mp h)).2 rfl
  exact op_cr c.K hr e n
theorem g_ceq (c : Cn W F k sc X) (h : k.fs.contains ("==", 2) = true) {n : Bool} {a b : E} {ea eb : Expr} {pos : Pos} (hs : notSet eb = true) (ha : PE X ea (rdE W F a)) (hb : PE X eb (rdE W F b)) :
    PE X (.Compare ea [if n then CmpOp.NotEq else CmpOp.Eq] [eb] pos) (rdE W F (.ceq n a b)) :=
  PE.imp (pe_cmpR (ceqR c h n) ha hb (nomark_ok hs)) fun _ _ _ q => ceq_in q
theorem t_ceq (c : Cn W F k sc X) (h : k.fs.contains ("==", 2) = true) {n : Bool} {a b : E} {ea eb : Expr} {pos : Pos} (hs : notSet eb = true) (ha : PE X ea (rdE W F a)) (hb : PE X eb (rdE W F b)) :
    PT X (.Compare ea [if n then CmpOp.NotEq else CmpOp.Eq] [eb] pos) (rdT W F (.ceq n a b)) :=
  PT.imp (pt_cmpR (ceqR c h n) ha hb (nomark_ok hs)) fun _ _ _ q => ceq_in (rdT_in q)
end
end Fm

/-! FmH: more expressions. -/
namespace Fm
open PySem PySem.Spec PyProof.Rows L2
section
variable {W : Wd} {F : Fns} {k : Kn} {sc : Scope} {X : Cx}
theorem chain_in {o1 o2 : O2} {a b c : E} {σ : L2.St} {H : Hp} {Q : VK} (q : rdE W F (.chain o1 o2 a b c) σ H Q) : tChain (rO W.K o1) (rO W.K o2) (rdE W F a) (rdE W F b) (rdE W F c) σ H Q := by
  obtain ⟨Z, G, env, s, w⟩ := q
  have w0 : (do let x ← ev F a env; let y ← ev F b env; let z ← op2 o1 x y; let k ← asB z; if k then (do let w ← ev F c env; op2 o2 y w) else T.ret (.bl false)).wp (KX [] false W Z G H env σ Q) := w
  refine s.first w0 fun dx G1 H1 x e1 g1 s1 r1 w1 => ?_
  refine s1.first w1 fun dy G2 H2 y e2 g2 s2 r2 w2 => ?_
  refine op_ok (b := false) g2 s2.zo (r1.ext e2 s1.zo) r2 (T.wp_imp (T.wp_bind.mp w2) fun d hd => ?_)
  intro G3 H3 v e3 g3 r3
  cases d with
  | bl kk =>
    rw [r3.bl]
    refine ⟨kk, rfl, ?_⟩
    have s3 := s2.ext e3 g3
    have hd' : (if kk = true then (do let w ← ev F c env; op2 o2 dy w) else T.ret (.bl false)).wp (KX [] false W Z G H env σ Q) := hd
    cases kk with
    | true =>
      rw [if_pos rfl] at hd' ⊢
      refine s3.first hd' fun dw G4 H4 w e4 g4 s4 r4 w4 => ?_
      exact op_ok (b := false) g4 s4.zo ((r2.ext e3 s2.zo).ext e4 s3.zo) r4 (T.wp_imp (op2_nocell w4) fun d ⟨q, z⟩ => KF.step (((e1.trans e2).trans e3).trans e4) g4 (KX.kf q z))
    | false =>
      rw [if_neg Bool.false_ne_true] at hd' ⊢
      exact KX.at g3 (.bl false) (fun _ z => nomatch z) (KX.step (((e1.trans e2).trans e3)) g3 hd')
  | _ => exact hd.elim
theorem marks2 {p1 p2 : CmpOp} {b c : Expr} (h : notSet c = true) : lastMarks [p1, p2] [b, c] = false := nomark_ok h
theorem g_chain (cn : Cn W F k sc X) {o1 o2 : O2} {p1 p2 : CmpOp} {a b c : E} {ea eb ec : Expr} {pos : Pos} (h1 : cmpOf o1 = some p1) (h2 : cmpOf o2 = some p2) (hs : notSet ec = true) (ha : PE X ea (rdE W F a)) (hb : PE X eb (rdE W F b)) (hc : PE X ec (rdE W F c)) :
    PE X (.Compare ea [p1, p2] [eb, ec] pos) (rdE W F (.chain o1 o2 a b c)) := PE.imp (pe_chain (cmpR cn h1) (cmpR cn h2) ha hb hc (marks2 hs)) fun _ _ _ q => chain_in q
theorem t_chain (cn : Cn W F k sc X) {o1 o2 : O2} {p1 p2 : CmpOp} {a b c : E} {ea eb ec : Expr} {pos : Pos} (h1 : cmpOf o1 = some p1) (h2 : cmpOf o2 = some p2) (hs : notSet ec = true) (ha : PE X ea (rdE W F a)) (hb : PE X eb (rdE W F b)) (hc : PE X ec (rdE W F c)) :
    PT X (.Compare ea [p1, p2] [eb, ec] pos) (rdT W F (.chain o1 o2 a b c)) := PT.imp (pt_chain (cmpR cn h1) (cmpR cn h2) ha hb hc (marks2 hs)) fun _ _ _ q => chain_in (rdT_in q)
theorem g_neg {a : E} {ea : Expr} {pos : Pos} (ha : PE X ea (rdE W F a)) : PE X (.UnaryOp .USub ea pos) (rdE W F (.neg a)) := by
  refine PE.imp (pe_un un_neg ha) fun σ H Q q => ?_
  obtain ⟨Z, G, env, s, w⟩ := q
  refine s.first (show (ev F a env >>= _).wp _ from w) fun d G1 H1 v e1 g1 s1 r1 w1 => ?_
  cases d with
  | int i =>
    rw [r1.int]
    exact ⟨i, rfl, KX.at g1 (.int _) (fun _ z => nomatch z) (KX.step e1 g1 (show KX [] false W Z G H env σ Q (.int (-i)) from w1))⟩
  | _ => exact w1.elim
theorem nt_in {a : E} {σ : L2.St} {H : Hp} {Q : VK} (q : rdE W F (.nt a) σ H Q) : tNotV (rdE W F a) σ H Q := by
  obtain ⟨Z, G, env, s, w⟩ := q
  refine s.first (show (ev F a env >>= fun x => asB x >>= fun b => T.ret (D.bl (!b))).wp _ from w) fun d G1 H1 v e1 g1 s1 r1 w1 => ?_
  cases d with
  | bl b =>
    rw [r1.bl]
    exact ⟨b, rfl, KX.at g1 (.bl _) (fun _ z => nomatch z) (KX.step e1 g1 (show KX [] false W Z G H env σ Q (.bl (!b)) from w1))⟩
  | _ => exact w1.elim
theorem g_nt {a : E} {ea : Expr} {pos : Pos} (ha : PE X ea (rdE W F a)) : PE X (.UnaryOp .Not ea pos) (rdE W F (.nt a)) := PE.imp (pe_not ha) fun _ _ _ q => nt_in q
theorem SOk.firstT {β : Type} {a : E} {f : Bool → T β} {q : β → Prop} {Z : Addr → Prop} {G : Gh} {env : Env} {σ : L2.St} {H : Hp} {R : Bool → Hp → Prop} (s : SOk W Z G H env σ) (h : (ev F a env >>= fun x => asB x >>= f).wp q)
    (n : ∀ b G' H', Ext G H G' H' → GInv W G' H' → SOk W Z G' H' env σ → (f b).wp q → R b H') : rdT W F a σ H R := by
  refine ⟨Z, G, env, s, ?_⟩
  rw [← T.bind_assoc] at h
  exact T.wp_imp (T.wp_bind.mp h) fun b hb G' H' e g => n b G' H' e g (s.ext e g) hb
theorem t_nt {a : E} {ea : Expr} {pos : Pos} (ha : PT X ea (rdT W F a)) : PT X (.UnaryOp .Not ea pos) (rdT W F (.nt a)) := by
  refine PT.imp (pt_not ha) fun σ H Q q => ?_
  obtain ⟨Z, G, env, s, w⟩ := q
  have w' : (ev F a env >>= fun x => asB x >>= fun b => T.ret (!b)).wp fun b => ∀ G' H', Ext G H G' H' → GInv W G' H' → Q b H' := by
    have w1 := w
    rw [show ev F (.nt a) env = (ev F a env >>= fun x => asB x >>= fun b => T.ret (D.bl (!b))) from rfl, T.bind_assoc] at w1
    have e : (fun x => (asB x >>= fun b => T.ret (D.bl (!b))) >>= asB) = fun x => asB x >>= fun b => T.ret (!b) := funext fun x => by
      rw [T.bind_assoc]
      rfl
    rw [e] at w1
    exact w1
  exact s.firstT w' fun b G1 H1 e1 g1 s1 w1 => (show ∀ G' H', Ext G H G' H' → GInv W G' H' → Q (!b) H' from w1) G1 H1 e1 g1
/-! ### and, or -/
theorem and_in {a b : E} {tb : TE} {σ : L2.St} {H : Hp} {Q : VK} (hb : ∀ σ H Q, rdE W F b σ H Q → tb σ H Q) (q : rdE W F (.and a b) σ H Q) : tAndV (rdE W F a) tb σ H Q := by
  obtain ⟨Z, G, env, s, w⟩ := q
  refine s.first (show (ev F a env >>= fun x => asB x >>= fun k => if k = true then ev F b env else T.ret (.bl false)).wp _ from w) fun d G1 H1 v e1 g1 s1 r1 w1 => ?_
  cases d with
  | bl kk =>
    rw [r1.bl]
    refine ⟨kk, rfl, ?_⟩
    have w2 : (if kk = true then ev F b env else T.ret (.bl false)).wp (KX (walkeds b) false W Z G H env σ Q) := w1
    cases kk with
    | true =>
      rw [if_pos rfl] at w2 ⊢
      exact hb _ _ _ ⟨Z, G1, env, s1, T.wp_imp w2 fun d hd => KX.sub s1.zo (fun _ z => z) (KX.step e1 g1 hd) rfl⟩
    | false =>
      rw [if_neg Bool.false_ne_true] at w2 ⊢
      exact KX.at g1 (.bl false) (fun _ z => nomatch z) (KX.step e1 g1 w2)
  | _ => exact w1.elim
theorem or_in {a b : E} {tb : TE} {σ : L2.St} {H : Hp} {Q : VK} (hb : ∀ σ H Q, rdE W F b σ H Q → tb σ H Q) (q : rdE W F (.or a b) σ H Q) : tOrV (rdE W F a) tb σ H Q := by
  obtain ⟨Z, G, env, s, w⟩ := q
  refine s.first (show (ev F a env >>= fun x => asB x >>= fun k => if k = true then T.ret (.bl true) else ev F b env).wp _ from w) fun d G1 H1 v e1 g1 s1 r1 w1 => ?_
  cases d with
  | bl kk =>
    rw [r1.bl]
    refine ⟨kk, rfl, ?_⟩
    have w2 : (if kk = true then T.ret (.bl true) else ev F b env).wp (KX (walkeds b) false W Z G H env σ Q) := w1
    cases kk with
    | false =>
      rw [if_neg Bool.false_ne_true] at w2 ⊢
      exact hb _ _ _ ⟨Z, G1, env, s1, T.wp_imp w2 fun d hd => KX.sub s1.zo (fun _ z => z) (KX.step e1 g1 hd) rfl⟩
    | true =>
      rw [if_pos rfl] at w2 ⊢
      exact KX.at g1 (.bl true) (fun _ z => nomatch z) (KX.step e1 g1 w2)
  | _ => exact w1.elim
theorem tand_in {a b : E} {tb : TT} {σ : L2.St} {H : Hp} {Q : Bool → Hp → Prop} (hb : ∀ σ H Q, rdT W F b σ H Q → tb σ H Q) (q : rdT W F (.and a b) σ H Q) : tAnd (rdT W F a) tb σ H Q := by
  obtain ⟨Z, G, env, s, w⟩ := q
  have w' : (ev F a env >>= fun x => asB x >>= fun k => (if k = true then ev F b env >>= asB else T.ret false)).wp fun b => ∀ G' H', Ext G H G' H' → GInv W G' H' → Q b H' := by
    have w1 := w
    rw [show ev F (.and a b) env = (ev F a env >>= fun x => asB x >>= fun k => if k = true then ev F b env else T.ret (.bl false)) from rfl, T.bind_assoc] at w1
    have e : (fun x => (asB x >>= fun k => if k = true then ev F b env else T.ret (.bl false)) >>= asB) = fun x => asB x >>= fun k => (if k = true then ev F b env >>= asB else T.ret false) := funext fun x => by
      rw [T.bind_assoc]
      congr 1
      funext kk
      cases kk <;> rfl
    rw [e] at w1
    exact w1
  refine s.firstT w' fun kk G1 H1 e1 g1 s1 w1 => ?_
  cases kk with
  | true =>
    rw [if_pos rfl] at w1 ⊢
    exact hb _ _ _ ⟨Z, G1, env, s1, T.wp_imp w1 fun d hd G' H' e g => hd G' H' (e1.trans e) g⟩
  | false =>
    rw [if_neg Bool.false_ne_true] at w1 ⊢
    exact (show ∀ G' H', Ext G H G' H' → GInv W G' H' → Q false H' from w1) G1 H1 e1 g1
theorem tor_in {a b : E} {tb : TT} {σ : L2.St} {H : Hp} {Q : Bool → Hp → Prop} (hb : ∀ σ H Q, rdT W F b σ H Q → tb σ H Q) (q : rdT W F (.or a b) σ H Q) : tOr (rdT W F a) tb σ H Q := by
  obtain ⟨Z, G, env, s, w⟩ := q
  have w' : (ev F a env >>= fun x => asB x >>= fun k => (if k = true then T.ret true else ev F b env >>= asB)).wp fun b => ∀ G' H', Ext G H G' H' → GInv W G' H' → Q b H' := by
    have w1 := w
    rw [show ev F (.or a b) env = (ev F a env >>= fun x => asB x >>= fun k => if k = true then T.ret (.bl true) else ev F b env) from rfl, T.bind_assoc] at w1
    have e : (fun x => (asB x >>= fun k => if k = true then T.ret (.bl true) else ev F b env) >>= asB) = fun x => asB x >>= fun k => (if k = true then T.ret true else ev F b env >>= asB) := funext fun x => by
      rw [T.bind_assoc]
      congr 1
      funext kk
      cases kk <;> rfl
    rw [e] at w1
    exact w1
  refine s.firstT w' fun kk G1 H1 e1 g1 s1 w1 => ?_
  cases kk with
  | false =>
    rw [if_neg Bool.false_ne_true] at w1 ⊢
    exact hb _ _ _ ⟨Z, G1, env, s1, T.wp_imp w1 fun d hd G' H' e g => hd G' H' (e1.trans e) g⟩
  | true =>
    rw [if_pos rfl] at w1 ⊢
    exact (show ∀ G' H', Ext G H G' H' → GInv W G' H' → Q true H' from w1) G1 H1 e1 g1
theorem g_and {a b : E} {ea : Expr} {rest : List Expr} {eb : Expr} {pos : Pos} (ha : PE X ea (rdE W F a)) (hb : PE X (.BoolOp .And (eb :: rest) pos) (rdE W F b)) : PE X (.BoolOp .And (ea :: eb :: rest) pos) (rdE W F (.and a b)) :=
  PE.imp (pe_and ha hb) fun _ _ _ q => and_in (fun _ _ _ z => z) q
theorem g_or {a b : E} {ea : Expr} {rest : List Expr} {eb : Expr} {pos : Pos} (ha : PE X ea (rdE W F a)) (hb : PE X (.BoolOp .Or (eb :: rest) pos) (rdE W F b)) : PE X (.BoolOp .Or (ea :: eb :: rest) pos) (rdE W F (.or a b)) :=
  PE.imp (pe_or ha hb) fun _ _ _ q => or_in (fun _ _ _ z => z) q
theorem w_and {a b : E} {ea : Expr} {rest : List Expr} {eb : Expr} {pos : Pos} (ha : PT X ea (rdT W F a)) (hb : PW X (.BoolOp .And (eb :: rest) pos) (rdT W F b)) : PW X (.BoolOp .And (ea :: eb :: rest) pos) (rdT W F (.and a b)) :=
  PW.imp (pw_and ha hb) fun _ _ _ q => tand_in (fun _ _ _ z => z) q
theorem w_or {a b : E} {ea : Expr} {rest : List Expr} {eb : Expr} {pos : Pos} (ha : PT X ea (rdT W F a)) (hb : PW X (.BoolOp .Or (eb :: rest) pos) (rdT W F b)) : PW X (.BoolOp .Or (ea :: eb :: rest) pos) (rdT W F (.or a b)) :=
  PW.imp (pw_or ha hb) fun _ _ _ q => tor_in (fun _ _ _ z => z) q
theorem g_ite {c a b : E} {ec ea eb : Expr} {pos : Pos} (hc : PT X ec (rdT W F c)) (ha : PE X ea (rdE W F a)) (hb : PE X eb (rdE W F b)) : PE X (.IfExp ec ea eb pos) (rdE W F (.ite c a b)) := by
  refine PE.imp (pe_ifExp hc ha hb) fun σ H Q q => ?_
  obtain ⟨Z, G, env, s, w⟩ := q
  have w' : (ev F c env >>= fun x => asB x >>= fun k => if k = true then ev F a env else ev F b env).wp (KX (walkeds a ++ walkeds b) false W Z G H env σ Q) := w
  refine s.firstT w' fun kk G1 H1 e1 g1 s1 w1 => ?_
  cases kk with
  | true =>
    rw [if_pos rfl] at w1 ⊢
    exact ⟨Z, G1, env, s1, T.wp_imp w1 fun d hd => KX.sub s1.zo (fun _ z => List.mem_append_left _ z) (KX.step e1 g1 hd) rfl⟩
  | false =>
    rw [if_neg Bool.false_ne_true] at w1 ⊢
    exact ⟨Z, G1, env, s1, T.wp_imp w1 fun d hd => KX.sub s1.zo (fun _ z => List.mem_append_right _ z) (KX.step e1 g1 hd) rfl⟩
/-! ### lists of arguments -/
theorem g_nil : PA X [] (rdA W F .nil) := PA.imp pa_nil fun σ H Q q => by
  obtain ⟨Z, G, env, s, w⟩ := q
  exact (show ∀ G' H' vs, Ext G H G' H' → GInv W G' H' → Paired (RelS W Z G' H') vs [] → Q vs H' from w) G H [] (Ext.refl G H) s.gi .nil
theorem paired_ext {Z : Addr → Prop} {G G' : Gh} {H H' : Hp} (e : Ext G H G' H') (zo : ZOk Z G H) {vs : List V} {ds : List D} (r : Paired (RelS W Z G H) vs ds) : Paired (RelS W Z G' H') vs ds := L2.Paired.mapP r fun _ _ q => q.ext e zo
theorem g_cons {a as : E} {e : Expr} {es : List Expr} (hs : notStar e = true) (ha : PE X e (rdE W F a)) (has : PA X es (rdA W F as)) : PA X (e :: es) (rdA W F (.cons a as)) := by
  refine PA.imp (pa_cons ha has (star_ok hs es)) fun σ H Q q => ?_
  obtain ⟨Z, G, env, s, w⟩ := q
  refine s.first (show (ev F a env >>= fun x => evs F as env >>= fun xs => T.ret (x :: xs)).wp _ from w) fun d G1 H1 v e1 g1 s1 r1 w1 => ?_
  exact ⟨Z, G1, env, s1, T.wp_imp (T.wp_bind.mp w1) fun ds hd G2 H2 vs e2 g2 r2 =>
    (show ∀ G' H' vs, Ext G H G' H' → GInv W G' H' → Paired (RelS W Z G' H') vs (d :: ds) → Q vs H' from hd) G2 H2 (v :: vs) (e1.trans e2) g2 (.cons (r1.ext e2 s1.zo) r2)⟩
end
end Fm

/-! FmI: calls, built-ins, attributes, subscripts. -/
namespace Fm
open PySem PySem.Spec PyProof.Rows L2
section
variable {W : Wd} {F : Fns} {k : Kn} {sc : Scope} {X : Cx}
theorem unc_map {Z : Addr → Prop} {G : Gh} {H : Hp} (zo : ZOk Z G H) : ∀ {vs : List V} {ds : List D}, Paired (RelS W Z G H) vs ds → RelL W noZ G H vs (ds.map D.unc)
  | _, _, .nil => .nil
  | _, _, .cons (a := v) (b := d) r t => by
    rw [List.map_cons]
    refine .cons ?_ (unc_map zo t)
    cases d with
    | cell xs =>
      obtain ⟨p, vs, rfl, h1, z, q⟩ := r
      exact .lst h1 (zo p z).2 (fun q => q) (q.anti fun _ q => q.elim)
    | _ => exact Rel.anti (fun _ q => q.elim) r
theorem unc_same : ∀ {ds : List D}, (ds.any D.isCell) = false → ds.map D.unc = ds
  | [], _ => rfl
  | d :: ds, h => by
    rw [List.any_cons, Bool.or_eq_false_iff] at h
    rw [List.map_cons, unc_same h.2]
    cases d <;> first | rfl | cases h.1
theorem call_in {f : String} {as : E} {σ : L2.St} {H : Hp} {Q : VK} (q : rdE W F (.call f as) σ H Q) : tCall (spF W F f) [] E0 (rdA W F as) σ H Q := by
  obtain ⟨Z, G, env, s, w⟩ := q
  have w' := T.wp_bind.mp (show (evs F as env >>= fun ds => F f (ds.map D.unc) >>= fun r => resT (ds.any D.isCell) r).wp (KX [] false W Z G H env σ Q) from w)
  refine ⟨Z, G, env, s, T.wp_imp w' fun ds hd G1 H1 vs e1 g1 r1 => ?_⟩
  show spF W F f (vs ++ []) H1 Q E0
  rw [List.append_nil]
  have s1 := s.ext e1 g1
  have hd' := T.wp_bind.mp hd
  cases hc : ds.any D.isCell with
  | false =>
    refine ⟨Z, G1, ds.map D.unc, g1, s1.zo, ?_, T.wp_imp hd' fun r hr G2 H2 v e2 g2 r2 => ?_⟩
    · rw [unc_same hc]
      exact paired_rel r1 hc
    · rw [hc] at hr
      cases r with
      | cell xs =>
        obtain ⟨p, us, rfl, n1, n2, n3, n4⟩ := r2
        exact (show RQ W Z G H Q (.lst xs) from hr) G2 H2 _ (e1.trans e2) g2 (Rel.lst n2 n3 (fun z => by
          obtain ⟨⟨ys, h⟩, _⟩ := s1.zo p z
          rw [n1] at h
          cases h) (n4.anti fun _ z => .inl z)).s
      | _ => exact (show RQ W Z G H Q _ from hr) G2 H2 v (e1.trans e2) g2 (show Rel W Z G2 H2 v _ from r2).s
  | true =>
    refine ⟨noZ, G1, ds.map D.unc, g1, fun p z => z.elim, unc_map s1.zo r1, T.wp_imp hd' fun r hr G2 H2 v e2 g2 r2 => ?_⟩
    rw [hc] at hr
    cases r with
    | cell xs =>
      obtain ⟨p, us, rfl, n1, n2, n3, n4⟩ := r2
      have hr' : (if (true && !(xs.all D.flat)) = true then T.bad else T.ret (D.lst xs)).wp (KX [] false W Z G H env σ Q) := hr
      cases hf : xs.all D.flat with
      | false =>
        rw [hf] at hr'
        exact hr'.elim
      | true =>
        rw [hf, if_neg (by decide)] at hr'
        exact (show RQ W Z G H Q (.lst xs) from hr') G2 H2 _ (e1.trans e2) g2 (Rel.lst n2 n3 (fun z => by
          obtain ⟨⟨ys, h⟩, _⟩ := s1.zo p z
          rw [n1] at h
          cases h) (n4.flat hf)).s
    | _ =>
      have hr' := hr
      unfold resT at hr'
      simp only [Bool.true_and] at hr'
      obtain ⟨hf, hr2⟩ : D.flat _ = true ∧ RQ W Z G H Q _ := by
        split at hr'
        · exact hr'.elim
        · rename_i hf
          exact ⟨by simpa using hf, hr'⟩
      exact hr2 G2 H2 v (e1.trans e2) g2 (Rel.flat (show Rel W noZ G2 H2 v _ from r2) hf).s
theorem g_call (c : Cn W F k sc X) {f : String} {as : E} {es : List Expr} {x : Str} {p pos : Pos} (hx : x = Str.ofString f) (hg : gl sc x = true) (hf : k.fs.contains (f, es.length) = true) (hp : plainNm x = true) (hne : (!(f == "==")) = true) (hes : chkEs k as sc es = true) (ha : PA X es (rdA W F as)) :
    PE X (.Call (.Name x p) es [] pos) (rdE W F (.call f as)) := by
  obtain ⟨a, hm, hcal⟩ := (c.fs (f, es.length) (List.contains_iff_mem.mp hf)).1 (by simpa using hne)
  rw [← hx] at hm
  have hd := (plain_ok hp).1
  cases es with
  | nil =>
    cases as with
    | nil =>
      have nilq : ∀ {σ H Q}, rdE W F (.call f .nil) σ H Q → spF W F f [] H Q E0 := fun {σ H Q} q => by
        obtain ⟨Z, G, env, s, w⟩ := call_in q
        have w' : ∀ G' H' vs, Ext G H G' H' → GInv W G' H' → Paired (RelS W Z G' H') vs [] → spF W F f (vs ++ []) H' Q E0 := w
        exact w' G H [] (Ext.refl G H) s.gi .nil
      rcases hcal with ⟨kk, fd, ps, hr, hk, hb, hF⟩ | ⟨kk, ini, fd, ps, sp, M, hr, hb, hF, hsp⟩
      · exact PE.imp (pe_call0 hF hr (gl_ok c hg) hm hk hb .nil pass0 hd) fun σ H Q q => nilq q
      · exact PE.imp (pe_make0 M hF hr (gl_ok c hg) hm hb .nil pass0 hd) fun σ H Q q => fun x dx h1 h2 h3 => hsp [] H Q (nilq q) x dx h1 h2 h3
    | _ => cases hes
  | cons e es =>
    cases as with
    | cons a as =>
      have h' := hes
      unfold chkEs at h'
      rw [Bool.and_eq_true, Bool.and_eq_true] at h'
      rcases hcal with ⟨kk, fd, ps, hr, hk, hb, hF⟩ | ⟨kk, ini, fd, ps, sp, M, hr, hb, hF, hsp⟩
      · exact PE.imp (pe_call hF hr (gl_ok c hg) hm hk hb .nil pass0 ha hd (star_ok h'.1 es) (stars_ok h'.2.2)) fun σ H Q q => call_in q
      · refine PE.imp (pe_make M hF hr (gl_ok c hg) hm hb .nil pass0 ha hd (star_ok h'.1 es) (stars_ok h'.2.2)) fun σ H Q q => ?_
        obtain ⟨Z, G, env, s, w⟩ := call_in q
        exact ⟨Z, G, env, s, T.wp_imp w fun ds hds G' H' vs e g r x dx h1 h2 h3 => hsp vs H' Q (by
          have z : spF W F f (vs ++ []) H' Q E0 := hds G' H' vs e g r
          rw [List.append_nil] at z
          exact z) x dx h1 h2 h3⟩
    | _ => cases hes
/-! ### built-ins -/
theorem attr_plain {e : Expr} {f : Str} {env : PySem.Env} {t : Sem Value} (h : notCall e = true) : attributeBase e f env t = t := by
  cases e <;> first | rfl | cases h
theorem g_attr (c : Cn W F k sc X) {a : E} {f : String} {ea : Expr} {x : Str} {pos : Pos} (hx : x = Str.ofString f) (hn : notCall ea = true) (ha : PE X ea (rdE W F a)) : PE X (.Attribute ea x pos) (rdE W F (.attr a f)) := by
  refine PE.imp (pe_fld ha (attr_plain hn)) fun σ H Q q => ?_
  obtain ⟨Z, G, env, s, w⟩ := q
  refine s.first (show (ev F a env >>= fun x => attrD x f).wp (KX [] false W Z G H env σ Q) from w) fun d G1 H1 v e1 g1 s1 r1 w1 => ?_
  rw [c.K]
  cases d with
  | crowd n ts ns =>
    cases r1 with
    | @crowd a dx t u l _ _ _ h1 g l1 ra rb =>
      have w2 : (if f = "persons" then T.ret (D.int n) else if f = "ties" then T.ret (tiesD ts) else if f = "needs" then T.ret (needsD ns) else T.bad).wp (KX [] false W Z G H env σ Q) := w1
      rcases wp_ite w2 with ⟨hf, w3⟩ | ⟨_, w2⟩
      · subst hf
        subst hx
        exact ⟨a, W.C, dx, _, .int n, rfl, h1, c.cls, c.noat _ (by simp), rfl, KX.at g1 (.int _) (fun _ z => nomatch z) (KX.step e1 g1 w3)⟩
      rcases wp_ite w2 with ⟨hf, w3⟩ | ⟨_, w2⟩
      · subst hf
        subst hx
        exact ⟨a, W.C, dx, _, .ref t, rfl, h1, c.cls, c.noat _ (by simp), rfl, KX.at g1 ra (fun _ z => nomatch z) (KX.step e1 g1 w3)⟩
      obtain ⟨hf, w3⟩ := wp_if w2
      subst hf
      subst hx
      exact ⟨a, W.C, dx, _, .ref u, rfl, h1, c.cls, c.noat _ (by simp), rfl, KX.at g1 rb (fun _ z => nomatch z) (KX.step e1 g1 w3)⟩
  | _ => exact w1.elim
theorem ix_plain {e : Expr} (h : notSlice e = true) : PlainIx e := by
  cases e <;> first | (intro o i; rfl) | cases h
theorem atI_rel {Z : Addr → Prop} {G : Gh} {H : Hp} {vs : List V} {ds : List D} {i : Int} {d : D} (r : RelL W Z G H vs ds) (h : atI ds i = some d) : ∃ v, atI vs i = some v ∧ Rel W Z G H v d := by
  unfold atI at h ⊢
  rw [r.length]
  cases e : ixN ds.length i with
  | none => rw [e] at h; cases h
  | some j =>
    rw [e] at h
    exact r.getD h
theorem g_ix (c : Cn W F k sc X) {a i : E} {ea ei : Expr} {pos : Pos} (hn : notSlice ei = true) (ha : PE X ea (rdE W F a)) (hi : PE X ei (rdE W F i)) : PE X (.Subscript ea ei pos) (rdE W F (.ix a i)) := by
  refine PE.imp (pe_ix ix_seq ha hi (ix_plain hn)) fun σ H Q q => ?_
  obtain ⟨Z, G, env, s, w⟩ := q
  refine s.first (show (ev F a env >>= fun x => ev F i env >>= fun y => ixD x y).wp (KX [] false W Z G H env σ Q) from w) fun dx G1 H1 x e1 g1 s1 r1 w1 => ?_
  refine s1.first w1 fun dy G2 H2 y e2 g2 s2 r2 w2 => ?_
  have r1' := r1.ext e2 s1.zo
  unfold ixD at w2
  split at w2
  · rename_i cs j
    rw [r2.int]
    cases r1' with
    | @tape a _ gt =>
      have h1 : H2 a = some (.lst (cs.map V.int)) := g2 a _ gt
      cases ed : atI cs j with
      | none => rw [ed] at w2; exact w2.elim
      | some n =>
        rw [ed] at w2
        rw [c.K]
        refine .inl ⟨a, _, j, .int n, rfl, rfl, .of h1, ?_, KX.at g2 (.int n) (fun _ z => nomatch z) (KX.step (e1.trans e2) g2 w2)⟩
        unfold atI at ed ⊢
        rw [List.length_map]
        cases e : ixN cs.length j with
        | none => rw [e] at ed; cases ed
        | some m =>
          rw [e] at ed
          show (cs.map V.int)[m]? = _
          rw [List.getElem?_map, show cs[m]? = some n from ed]
          rfl
  · rename_i j _
    rw [r2.int]
    cases ei : dx.its with
    | none => rw [ei] at w2; exact w2.elim
    | some xs =>
      rw [ei] at w2
      have w3 : (match atI xs j with | some x => T.ret x | none => T.bad).wp (KX [] false W Z G H env σ Q) := w2
      cases ed : atI xs j with
      | none => rw [ed] at w3; exact w3.elim
      | some d =>
        rw [ed] at w3
        obtain ⟨p, vs, rfl, h1, rl⟩ := r1'.its ei
        obtain ⟨v, hv, rv⟩ := atI_rel rl ed
        have fin : Q v H2 := by
          have z : KX [] false W Z G2 H2 env σ Q d := KX.step (e1.trans e2) g2 w3
          cases d with
          | cell xs => cases rv
          | _ => exact RQ.at g2 (Rel.s rv) z
        rw [c.K]
        rcases h1 with h1 | h1
        · exact .inl ⟨p, vs, j, v, rfl, rfl, .of h1, hv, fin⟩
        · exact .inr (.inl ⟨p, vs, j, v, rfl, rfl, .of h1, hv, fin⟩)
  · exact w2.elim
/-! ### slices -/
def rdP (W : Wd) (F : Fns) (m : E) : TO := fun σ H Q => ∃ Z G env, SOk W Z G H env σ ∧ (if isNil m then T.ret none else do let y ← ev F m env; boundD y).wp (fun o => ∀ G' H', Ext G H G' H' → GInv W G' H' → Q o H')
theorem po_no {m : E} (h : isNil m = true) : PO X none (rdP W F m) := ⟨fun pins s σ H Q I q => by
  obtain ⟨Z, G, env, so, w⟩ := q
  rw [if_pos h] at w
  exact po_none.run pins s σ H Q I ((show ∀ G' H', Ext G H G' H' → GInv W G' H' → Q none H' from w) G H (Ext.refl G H) so.gi)⟩
theorem po_yes {m : E} {e : Expr} (h : isNil m = false) (he : PE X e (rdE W F m)) : PO X (some e) (rdP W F m) := ⟨fun pins s σ H Q I q => by
  obtain ⟨Z, G, env, so, w⟩ := q
  rw [if_neg (by rw [h]; decide)] at w
  refine (po_some he).run pins s σ H Q I (so.first w fun d G1 H1 v e1 g1 s1 r1 w1 => ?_)
  cases d with
  | int i =>
    obtain ⟨_, w2⟩ := wp_if (show (if small i = true then T.ret (some i) else T.bad).wp _ from w1)
    rw [r1.int]
    exact ⟨i, rfl, (show ∀ G' H', Ext G H G' H' → GInv W G' H' → Q (some i) H' from w2) G1 H1 e1 g1⟩
  | _ => exact w1.elim⟩
theorem cut_rel {Z : Addr → Prop} {G : Gh} {H : Hp} {vs : List V} {ds : List D} (r : RelL W Z G H vs ds) (lo hi : Option Int) : RelL W Z G H (cutV vs lo hi) (cutD ds lo hi) := by
  unfold cutV cutD
  rw [r.length]
  exact (r.drop _).take _
theorem cut_whole {ds : List D} {lo hi : Option Int} (h : HT.sIx ds.length 0 lo = 0 ∧ HT.sIx ds.length ds.length hi = ds.length) : cutD ds lo hi = ds := by
  unfold cutD
  rw [h.1, h.2, List.drop_zero, Nat.sub_zero, List.take_length]
theorem SOk.firstP {β : Type} {m : E} {f : Option Int → T β} {q : β → Prop} {Z : Addr → Prop} {G : Gh} {env : Env} {σ : L2.St} {H : Hp} {R : Option Int → Hp → Prop} (s : SOk W Z G H env σ)
    (h : ((if isNil m then T.ret none else do let y ← ev F m env; boundD y) >>= f).wp q) (n : ∀ o G' H', Ext G H G' H' → GInv W G' H' → SOk W Z G' H' env σ → (f o).wp q → R o H') : rdP W F m σ H R :=
  ⟨Z, G, env, s, T.wp_imp (T.wp_bind.mp h) fun o ho G' H' e g => n o G' H' e g (s.ext e g) ho⟩
theorem rel_ints {Z : Addr → Prop} {G : Gh} {H : Hp} : ∀ ns : List Int, RelL W Z G H (ns.map V.int) (ns.map D.int)
  | [] => .nil
  | n :: ns => .cons (.int n) (rel_ints ns)
theorem g_sl (c : Cn W F k sc X) {a lo hi : E} {ea : Expr} {l h : Option Expr} {pos p2 : Pos} (ha : PE X ea (rdE W F a)) (hl : PO X l (rdP W F lo)) (hh : PO X h (rdP W F hi)) : PE X (.Subscript ea (.Slice l h none p2) pos) (rdE W F (.sl a lo hi)) := by
  refine PE.imp (pe_slice (sl_list.or sl_tupA) ha hl hh) fun σ H Q q => ?_
  obtain ⟨Z, G, env, s, w⟩ := q
  refine s.first (show (ev F a env >>= fun x => (if isNil lo then T.ret none else do let y ← ev F lo env; boundD y) >>= fun l => (if isNil hi then T.ret none else do let y ← ev F hi env; boundD y) >>= fun h => slD x l h).wp (KX [] true W Z G H env σ Q) from w) fun dx G1 H1 x e1 g1 s1 r1 w1 => ?_
  refine s1.firstP w1 fun ol G2 H2 e2 g2 s2 w2 => ?_
  refine s2.firstP w2 fun oh G3 H3 e3 g3 s3 w3 => ?_
  have r1' := (r1.ext e2 s1.zo).ext e3 s2.zo
  have e13 := (e1.trans e2).trans e3
  rw [c.K]
  have lists : ∀ {xs : List D}, dx.asL = some xs → (T.ret (D.lst (cutD xs ol oh))).wp (KX [] true W Z G H env σ Q) → (rSlL W.K x ol oh H3 Q ∨ rSlA W.K x ol oh H3 Q) := fun {xs} ea hw => by
    obtain ⟨p, vs, rfl, h1, rl⟩ := r1'.list ea
    exact .inl ⟨p, vs, rfl, .of h1, fun q hq => RN.lay g3 hq (cut_rel rl ol oh) (RN.step e13 g3 (show RN W Z G H Q _ from hw))⟩
  cases dx with
  | tup xs =>
    obtain ⟨p, vs, rfl, h1, rl⟩ := r1'.tup
    have z : RQ W Z G3 H3 Q (.tup (cutD xs ol oh)) := RQ.step e13 (KF.rq (KX.kf (show KX [] true W Z G H env σ Q (.tup (cutD xs ol oh)) from w3) rfl) fun _ z => nomatch z)
    refine .inr ⟨p, vs, rfl, .of h1, fun hw => ?_, fun _ q hq => RQ.layT g3 hq (cut_rel rl ol oh) z⟩
    rw [rl.length] at hw
    rw [cut_whole hw] at z
    exact z.at g3 r1'
  | lst xs => exact lists rfl w3
  | cell xs => exact lists rfl w3
  | scr ns =>
    cases r1' with
    | @scr a _ sa hl =>
      exact .inl ⟨a, _, rfl, sa.elim (fun z => z H3) (fun z => z.1), fun q hq => RN.lay g3 hq (cut_rel (rel_ints ns) ol oh) (RN.step e13 g3 (show RN W Z G H Q _ from w3))⟩
  | _ => exact w3.elim
end
end Fm

/-! FmI0: x[::-1]. -/
namespace Fm
open PySem PySem.Spec PyProof.Rows L2 HT
section
variable {prog : Program} {w : World} {A : Around} {E : Value → Shared → Prop} {s : Shared}
theorem adjust_rev (n : Nat) : Builtin.Slice.sliceAdjust none none (-1) (n : Int) = ((n : Int) - 1, -1) := rfl
theorem places_rev (n : Nat) : Builtin.Slice.slicePlaces ((n : Int) - 1) (-1) (-1) = n := by
  unfold Builtin.Slice.slicePlaces
  have h1 : ¬ ((-1 : Int) > 0) := by decide
  simp only [h1, if_false]
  rw [show (- -1 : Int) = 1 by decide, Int.ediv_one]
  split <;> omega
theorem sliceApplied_rev {sl : Addr} {vs : Value} {n : Nat} {Q : Int × Int × Nat → Shared → Prop} (hs : s.heap.IsSliceOf sl .none .none vs) (ps : IsPart vs (some (-1)))
    (h : Q ((n : Int) - 1, -1, n) s) : wpAny (model prog w) A (Builtin.Slice.sliceApplied (.ref sl) (pure (n : Int))) Q E s := by
  obtain ⟨os, hos, hcs, hds⟩ := id hs
  unfold Builtin.Slice.sliceApplied Builtin.Slice.sliceFields
  refine wpAny_bind (wpAny_bind (wpAny_field hos hds (x := .none) rfl (wpAny_bind (wpAny_field hos hds (x := .none) rfl (wpAny_bind (wpAny_field hos hds (x := vs) rfl (wpAny_pure ?_)))))))
  refine wpAny_bind (slicePart_ ps ?_)
  show wpAny _ _ (if ((-1 : Int) == 0) = true then _ else _) _ _ s
  rw [if_neg (by decide)]
  refine wpAny_bind (slicePart_none (wpAny_bind (slicePart_none (wpAny_bind (wpAny_pure ?_)))))
  show wpAny _ _ (match Builtin.Slice.sliceAdjust none none (-1) (n : Int) with | (lo, hi) => pure (lo, (-1 : Int), Builtin.Slice.slicePlaces lo hi (-1))) _ _ s
  rw [adjust_rev n]
  show wpAny _ _ (pure ((n : Int) - 1, (-1 : Int), Builtin.Slice.slicePlaces ((n : Int) - 1) (-1) (-1))) _ _ s
  rw [places_rev]
  exact wpAny_pure h
theorem fm_congr {α β : Type} {f g : α → Option β} : ∀ {l : List α}, (∀ a ∈ l, f a = g a) → l.filterMap f = l.filterMap g
  | [], _ => rfl
  | a :: l, h => by
    rw [List.filterMap_cons, List.filterMap_cons, h a (.head _), fm_congr fun b hb => h b (.tail _ hb)]
theorem pick_rev (xs : Array Value) : ((List.range xs.size).filterMap fun (m : Nat) => xs[((xs.size : Int) - 1 + (m : Int) * (-1)).toNat]?).toArray = xs.toList.reverse.toArray := by
  have e : ((List.range xs.size).filterMap fun (m : Nat) => xs[((xs.size : Int) - 1 + (m : Int) * (-1)).toNat]?) = ((List.range xs.size).map fun k => xs.size - 1 - k).filterMap (xs[·]?) := by
    rw [List.filterMap_map]
    refine fm_congr fun m hm => ?_
    have := List.mem_range.mp hm
    have e : ((xs.size : Int) - 1 + (m : Int) * (-1)).toNat = xs.size - 1 - m := by omega
    show xs[((xs.size : Int) - 1 + (m : Int) * (-1)).toNat]? = xs[xs.size - 1 - m]?
    rw [e]
  rw [e, PySem.W.krv_range, List.filterMap_reverse, PySem.W.krv_all]
theorem getItem_tuple_rev {t sl : Addr} {items : Array Value} {vs : Value} {Q : Value → Shared → Prop} (ht : IsTup s.heap t items) (hs : s.heap.IsSliceOf sl .none .none vs) (ps : IsPart vs (some (-1)))
    (h : Q (.ref s.heap.objs.size) { s with heap := s.heap.push { cls := .type "tuple", data := .seq items.toList.reverse.toArray } })
    (hsz : items.size ≤ sizeLine) : wpAny (model prog w) A (getItem (.ref t) (.ref sl)) Q E s := by
  have htake : sizeOk (.seq items.toList.reverse.toArray) := by
    show items.toList.reverse.toArray.size ≤ sizeLine
    rw [List.size_toArray, List.length_reverse, Array.length_toList]
    exact hsz
  obtain ⟨os, hos, hcs, hds⟩ := id hs
  have hTs : s.TypeIs (.ref sl) "slice" := ⟨os, hos, hcs⟩
  unfold getItem
  try with_reducible refine wpAny_holding ?_
  first | refine wpAny_bind (wpAny_pure ?_) | skip
  refine wpAny_bind (wpAny_sequenceKey ht.typeIs (by decide) ?_)
  refine wpAny_bind (wpAny_callSpecial?_slot (name := Str.ofString "__getitem__") ht.typeIs PyProof.Rows.slot_tuple_getitem
    (wpAny_call_entry PyProof.Rows.slot_tuple_getitem ht.typeIs entry_tuple_getitem ?_ (args_tuple_getitem _ _)))
  show wpAny _ _ (Builtin.Tuple.tupleItemsOf (.ref t) >>= _) _ _ s
  refine wpAny_bind (tupleItemsOf_ ht ?_)
  refine wpAny_bind (wpAny_typeOf hTs ?_)
  rw [if_pos (by decide)]
  refine wpAny_bind (sliceApplied_rev hs ps ?_)
  have hno : ¬ ((((items.size : Int) - 1) == 0 && (-1 : Int) == 1 && items.size == items.size) = true) := by
    rw [show ((-1 : Int) == 1) = false from rfl, Bool.and_false, Bool.false_and]
    exact Bool.false_ne_true
  show wpAny _ _ (if (((items.size : Int) - 1) == 0 && (-1 : Int) == 1 && items.size == items.size) = true then _ else _) _ _ s
  rw [if_neg hno, pick_rev]
  first
    | exact wpAny_bind (m := Builtin.Tuple.tupleExact _) (wpAny_newObj_type (wpAny_pure ⟨_, rfl, wpAny_pure h⟩) htake)
    | exact wpAny_bind (m := Builtin.Tuple.tupleExact _) (wpAny_newObj_type (wpAny_bind (wpAny_pure (wpAny_pure ⟨_, rfl, wpAny_pure h⟩))) htake)
    | exact wpAny_bind (wpAny_bind (m := Builtin.Tuple.tupleExact _) (wpAny_newObj_type (wpAny_pure (wpAny_pure ⟨_, rfl, wpAny_pure h⟩)) htake))
    | exact wpAny_bind (wpAny_bind (m := Builtin.Tuple.tupleExact _) (wpAny_newObj_type (wpAny_pure ⟨_, rfl, wpAny_pure h⟩) htake))
end
theorem RelL.rev {W : Wd} {Z : Addr → Prop} {G : Gh} {H : Hp} : ∀ {vs : List V} {ds : List D}, RelL W Z G H vs ds → RelL W Z G H vs.reverse ds.reverse
  | _, _, .nil => .nil
  | _, _, .cons r t => by
    rw [List.reverse_cons, List.reverse_cons]
    exact (RelL.rev t).append (.cons r .nil)
section
variable {X : Cx}
/-- x[::-1] of a list, of a tuple -/
def rRev (K : PySem.W.Frag) : V → Hp → VK → Prop := fun x H1 Q => ∃ a xs, x = .ref a ∧
  ((SqL K H1 a xs ∧ ∀ p, H1 p = none → Q (.ref p) (upd H1 p (.lst xs.reverse))) ∨ (SqT K H1 a xs ∧ ∀ p, H1 p = none → Q (.ref p) (upd H1 p (.tup xs.reverse))))
theorem pe_rev {e : Expr} {te : TE} {k : Nat} {p1 p2 p3 pos : Pos} (he : PE X e te) : PE X (.Subscript e (.Slice none none (some (.UnaryOp .USub (.Constant (.int 1) k p1) p2)) p3) pos) (fun σ H Q => te σ H fun x H1 => rRev X.K x H1 Q) := by
  refine ⟨fun pins s σ H Q I h => ?_⟩
  refine Subscript_ (thn (he.run pins s σ H _ I h) fun v s1 ⟨x, H1, I1, r1, q1⟩ => ?_)
  obtain ⟨a, xs, ex, hx⟩ := q1
  subst ex
  cases r1
  have hst : PO X (some (.UnaryOp .USub (.Constant (.int 1) k p1) p2)) (tPart (tUn (rU fun i => .int (-i)) (tC (.int 1)))) := po_some (pe_un un_neg pe_int)
  refine wpAny_Slice (thn (po_none.run pins s1 σ H1 (fun o H2 => o = none ∧ H2 = H1) I1 ⟨rfl, rfl⟩) fun vl s2 ⟨l, H2, I2, pl, el, e2⟩ => ?_)
  subst el e2
  refine thn (po_none.run pins s2 σ H2 (fun o H3 => o = none ∧ H3 = H2) I2 ⟨rfl, rfl⟩) fun vu s3 ⟨u, H3, I3, pu, eu, e3⟩ => ?_
  subst eu e3
  refine thn (hst.run pins s3 σ H3 (fun o H4 => o = some (-1) ∧ H4 = H3) I3 ⟨1, rfl, -1, rfl, rfl, rfl⟩) fun vs s4 ⟨o, H4, I4, ps, eo, e4⟩ => ?_
  subst eo e4
  have I5 : Inv X pins σ H4 { s4 with heap := s4.heap.push { cls := .type "slice", data := .fields #[vl, vu, vs] } } := I4.kept (t' := s4.toks) fun b ob q => Heap.get?_push_of_some _ q
  show wpAny (model X.prog X.w) X.A (subscriptTail e (.Slice none none (some (.UnaryOp .USub (.Constant (.int 1) k p1) p2)) p3) (.ref a) (.ref s4.heap.objs.size)) (EP X pins σ Q) X.xe { s4 with heap := s4.heap.push { cls := .type "slice", data := .fields #[vl, vu, vs] } }
  rcases hx with ⟨hx, q⟩ | ⟨hx, q⟩
  · obtain ⟨its, r, ht, hz⟩ := I5.list hx
    have hlen := r.length
    refine tail_any (ops := [.ref a, .ref s4.heap.objs.size]) ht.isList.typeIs (PySem.slot_list_getitem.lookup) ?_ (by with_unfolding_all rfl)
    refine wpAny_getItem_list_slice ht.isList (Heap.IsSliceOf.new _ vl vu vs) pl pu ps (by decide) ?_ (by rw [List.size_toArray]; omega)
    rw [PySem.W.krv_pick]
    refine ⟨.ref _, _, I5.laid (t' := s4.toks) (o := .lst xs.reverse) (fun b ob q => Heap.get?_push_of_some _ q) (Nat.le_refl _) ?_, rfl, q _ (I5.hok.fresh (Nat.le_refl _))⟩
    exact ⟨by rw [List.length_reverse]; exact hz, _, 0, r.reverse, Heap.get?_push_size _ rfl⟩
  · obtain ⟨its, r, ht, hz⟩ := I5.tuple hx
    have hlen := r.length
    refine tail_any (ops := [.ref a, .ref s4.heap.objs.size]) ht.typeIs (PyProof.Rows.slot_tuple_getitem.lookup) ?_ (by with_unfolding_all rfl)
    cases pl
    cases pu
    refine getItem_tuple_rev ht (Heap.IsSliceOf.new _ .none .none vs) ps ?_ (by rw [List.size_toArray]; omega)
    refine ⟨.ref _, _, I5.laid (t' := s4.toks) (o := .tup xs.reverse) (fun b ob q => Heap.get?_push_of_some _ q) (Nat.le_refl _) ?_, rfl, q _ (I5.hok.fresh (Nat.le_refl _))⟩
    exact ⟨by rw [List.length_reverse]; exact hz, _, r.reverse, IsTup.new _ _⟩
theorem g_rev {W : Wd} {F : Fns} {k : Kn} {sc : Scope} (c : Cn W F k sc X) {a : E} {ea : Expr} {kk : Nat} {p1 p2 p3 pos : Pos} (ha : PE X ea (rdE W F a)) : PE X (.Subscript ea (.Slice none none (some (.UnaryOp .USub (.Constant (.int 1) kk p1) p2)) p3) pos) (rdE W F (.rev a)) := by
  refine PE.imp (pe_rev ha) fun σ H Q q => ?_
  obtain ⟨Z, G, env, s, w⟩ := q
  refine s.first (show (ev F a env >>= fun x => revD x).wp (KX [] true W Z G H env σ Q) from w) fun dx G1 H1 x e1 g1 s1 r1 w1 => ?_
  rw [c.K]
  have lists : ∀ {xs : List D}, dx.asL = some xs → (T.ret (D.lst xs.reverse)).wp (KX [] true W Z G H env σ Q) → rRev W.K x H1 Q := fun {xs} ea hw => by
    obtain ⟨p, vs, rfl, h1, rl⟩ := r1.list ea
    exact ⟨p, vs, rfl, .inl ⟨.of h1, fun q hq => RN.lay g1 hq rl.rev (RN.step e1 g1 (show RN W Z G H Q _ from hw))⟩⟩
  cases dx with
  | tup xs =>
    obtain ⟨p, vs, rfl, h1, rl⟩ := r1.tup
    have z : RQ W Z G1 H1 Q (.tup xs.reverse) := RQ.step e1 (KF.rq (KX.kf (show KX [] true W Z G H env σ Q (.tup xs.reverse) from w1) rfl) fun _ z => nomatch z)
    exact ⟨p, vs, rfl, .inr ⟨.of h1, fun q hq => RQ.layT g1 hq rl.rev z⟩⟩
  | lst xs => exact lists rfl w1
  | cell xs => exact lists rfl w1
  | _ => exact w1.elim
end
end Fm

/-! FmJ: built-ins, isinstance. -/
namespace Fm
open PySem PySem.Spec PyProof.Rows L2
section
variable {W : Wd} {F : Fns} {k : Kn} {sc : Scope} {X : Cx}
theorem CallR.or {f : Value} {r r' : List V → Hp → VK → Prop} (h : CallR X f r) (h' : CallR X f r') : CallR X f (fun xs H Q => r xs H Q ∨ r' xs H Q) := by
  intro pins s σ H xs us Q I rv q
  rcases q with q | q
  · exact h pins s σ H xs us Q I rv q
  · exact h' pins s σ H xs us Q I rv q
def noC (q : D → Prop) (d : D) : Prop := q d ∧ d.isCell = false
theorem bltin_noC {f : Bi} {ds : List D} {q : D → Prop} (h : (bltin f ds).wp q) : (bltin f ds).wp (noC q) := by
  unfold bltin at h ⊢
  split at h
  all_goals first
    | exact h.elim
    | exact ⟨h, rfl⟩
    | (obtain ⟨hc, h⟩ := wp_if h; rw [if_pos hc]; exact ⟨h, rfl⟩)
    | skip
  all_goals (split at h <;> first
    | exact h.elim
    | exact ⟨h, rfl⟩
    | (obtain ⟨hc, h⟩ := wp_if h; rw [if_pos hc]; exact ⟨h, rfl⟩))
theorem blt_in {f : Bi} {as : E} {σ : L2.St} {H : Hp} {Q : VK} {r : List V → Hp → VK → Prop} (q : rdE W F (.blt f as) σ H Q)
    (n : ∀ Z G H' vs ds, GInv W G H' → ZOk Z G H' → Paired (RelS W Z G H') vs ds → (bltin f ds).wp (KF (E.blt f as).fresh W Z G H' Q) → r vs H' Q) : tCB r (rdA W F as) σ H Q := by
  obtain ⟨Z, G, env, s, w⟩ := q
  have w' := T.wp_bind.mp (show (evs F as env >>= fun ds => bltin f ds).wp (KX [] (E.blt f as).fresh W Z G H env σ Q) from w)
  refine ⟨Z, G, env, s, T.wp_imp w' fun ds hd G1 H1 vs e1 g1 r1 => ?_⟩
  exact n Z G1 H1 vs ds g1 (s.ext e1 g1).zo r1 (T.wp_imp (bltin_noC hd) fun d hh => KF.step e1 g1 (KX.kf hh.1 hh.2))
theorem one_paired {Z : Addr → Prop} {G : Gh} {H : Hp} {vs : List V} {ds : List D} (r : Paired (RelS W Z G H) vs ds) : (∃ v d, vs = [v] ∧ ds = [d] ∧ RelS W Z G H v d) ∨ ds = [] ∨ ∃ a b l, ds = a :: b :: l := by
  cases r with
  | nil => exact .inr (.inl rfl)
  | cons r t =>
    cases t with
    | nil => exact .inl ⟨_, _, rfl, rfl, r⟩
    | cons _ _ => exact .inr (.inr ⟨_, _, _, rfl⟩)
theorem mem_or {x n : Int} {l : List Int} (h : x = n ∨ x ∈ l) : x ∈ n :: l := h.elim (fun e => by rw [e]; exact List.mem_cons_self) (List.mem_cons_of_mem _)
/-! the readings of built-ins -/
def rB (W : Wd) : Bi → List V → Hp → VK → Prop
  | .len => fun xs H Q => (∃ p ys, xs = [.ref p] ∧ (SqL W.K H p ys ∨ SqT W.K H p ys) ∧ Q (.int ys.length) H) ∨ (∃ z, xs = [.str z] ∧ z.length ≤ sizeLine ∧ Q (.int z.length) H)
  | .tuple => fun xs H Q => ∃ p ys, xs = [.ref p] ∧ ((SqL W.K H p ys ∧ ∀ l, H l = none → Q (.ref l) (upd H l (.tup ys))) ∨ (SqT W.K H p ys ∧ Q (.ref p) H))
  | .list => fun xs H Q => ∃ p ys, xs = [.ref p] ∧ (SqL W.K H p ys ∨ SqT W.K H p ys) ∧ ∀ l, H l = none → Q (.ref l) (upd H l (.lst ys))
  | .sorted => rSortD W true
  | .all => rAll W.K
  | .any => rAny W.K
  | .sum => rSum W.K
  | .min1 => rMin W.K
  | .max1 => rMax W.K
  | .min2 => fun xs H Q => ∃ i j, xs = [.int i, .int j] ∧ Q (.int (if j < i then j else i)) H
  | .max2 => fun xs H Q => ∃ i j, xs = [.int i, .int j] ∧ Q (.int (if j > i then j else i)) H
  | .abs => fun xs H Q => ∃ i, xs = [.int i] ∧ Q (.int (if i < 0 then -i else i)) H
  | .int => fun xs H Q => (∃ i, xs = [.int i] ∧ Q (.int i) H) ∨ ∃ k, xs = [.bl k] ∧ Q (.int (if k then 1 else 0)) H
  | _ => fun _ _ _ => False
theorem foldl_min : ∀ (l : List Int) (n : Int), (l.foldl min n ≤ n ∧ ∀ y ∈ l, l.foldl min n ≤ y) ∧ (l.foldl min n = n ∨ l.foldl min n ∈ l)
  | [], n => ⟨⟨Int.le_refl _, fun y hy => by cases hy⟩, .inl rfl⟩
  | x :: l, n => by
    obtain ⟨⟨h1, h2⟩, h3⟩ := foldl_min l (min n x)
    rw [List.foldl_cons]
    refine ⟨⟨by omega, fun y hy => ?_⟩, ?_⟩
    · rcases List.mem_cons.mp hy with rfl | hy
      · omega
      · exact h2 y hy
    · rcases h3 with h3 | h3
      · by_cases hx : n ≤ x
        · exact .inl (by omega)
        · exact .inr (by rw [h3]; exact List.mem_cons.mpr (.inl (by omega)))
      · exact .inr (List.mem_cons_of_mem _ h3)
theorem foldl_max : ∀ (l : List Int) (n : Int), (n ≤ l.foldl max n ∧ ∀ y ∈ l, y ≤ l.foldl max n) ∧ (l.foldl max n = n ∨ l.foldl max n ∈ l)
  | [], n => ⟨⟨Int.le_refl _, fun y hy => by cases hy⟩, .inl rfl⟩
  | x :: l, n => by
    obtain ⟨⟨h1, h2⟩, h3⟩ := foldl_max l (max n x)
    rw [List.foldl_cons]
    refine ⟨⟨by omega, fun y hy => ?_⟩, ?_⟩
    · rcases List.mem_cons.mp hy with rfl | hy
      · omega
      · exact h2 y hy
    · rcases h3 with h3 | h3
      · by_cases hx : x ≤ n
        · exact .inl (by omega)
        · exact .inr (by rw [h3]; exact List.mem_cons.mpr (.inl (by omega)))
      · exact .inr (List.mem_cons_of_mem _ h3)
theorem listInts {Z : Addr → Prop} {G : Gh} {H : Hp} {v : V} {d : D} {ns : List Int} (r : RelS W Z G H v d) (h : d.asL.bind ints? = some ns) : ∃ a, v = .ref a ∧ SqL W.K H a (ns.map V.int) := by
  cases e : d.asL with
  | none => rw [e] at h; cases h
  | some xs =>
    rw [e] at h
    obtain ⟨p, vs, rfl, h1, rl⟩ := r.list e
    rw [ints_map (show ints? xs = some ns from h)] at rl
    rw [rl.ints] at h1
    exact ⟨p, rfl, .of h1⟩
theorem listBools {Z : Addr → Prop} {G : Gh} {H : Hp} {v : V} {d : D} {ns : List Bool} (r : RelS W Z G H v d) (h : d.asL.bind bools? = some ns) : ∃ a, v = .ref a ∧ SqL W.K H a (ns.map V.bl) := by
  cases e : d.asL with
  | none => rw [e] at h; cases h
  | some xs =>
    rw [e] at h
    obtain ⟨p, vs, rfl, h1, rl⟩ := r.list e
    rw [bools_map (show bools? xs = some ns from h)] at rl
    rw [rl.bools] at h1
    exact ⟨p, rfl, .of h1⟩
theorem seq_of {Z : Addr → Prop} {G : Gh} {H : Hp} {v : V} {d : D} {xs : List D} (r : RelS W Z G H v d) (h : d.its = some xs) : ∃ p vs, v = .ref p ∧ (SqL W.K H p vs ∨ SqT W.K H p vs) ∧ RelL W Z G H vs xs := by
  obtain ⟨p, vs, e, h1, rl⟩ := r.its h
  exact ⟨p, vs, e, h1.elim (fun z => .inl (.of z)) (fun z => .inr (.of z)), rl⟩
theorem rB_in {f : Bi} {as : E} {Z : Addr → Prop} {G : Gh} {H : Hp} {vs : List V} {ds : List D} {Q : VK} (gi : GInv W G H) (zo : ZOk Z G H) (r : Paired (RelS W Z G H) vs ds) (h : (bltin f ds).wp (KF (E.blt f as).fresh W Z G H Q)) (hr : biRange f = false) : rB W f vs H Q := by
  have fb : ∀ {b : Bool} {kk : Bool}, KF kk W Z G H Q (.bl b) → Q (.bl b) H := fun {b kk} h => KF.at gi (Rel.bl b).s (fun _ z => nomatch z) h
  have fi : ∀ {i : Int} {kk : Bool}, KF kk W Z G H Q (.int i) → Q (.int i) H := fun {i kk} h => KF.at gi (Rel.int i).s (fun _ z => nomatch z) h
  unfold bltin at h
  split at h
  · cases r with
    | cons r t =>
      cases t
      obtain ⟨hl, h⟩ := wp_if h
      exact .inr ⟨_, by rw [r.str], Nat.le_trans hl line_max, fi h⟩
  · cases r with
    | cons r t =>
      cases t
      cases r with
      | tape g =>
        refine .inl ⟨_, _, rfl, .inl (.of (gi _ _ g)), ?_⟩
        rw [List.length_map]
        exact fi h
  · cases r with
    | cons r t =>
      cases t
      split at h
      · rename_i xs hx
        obtain ⟨p, vs, rfl, h1, rl⟩ := seq_of r hx
        refine .inl ⟨p, vs, rfl, h1, ?_⟩
        rw [rl.length]
        exact fi h
      · exact h.elim
  · cases r with
    | cons r t =>
      cases t
      rename_i d
      split at h
      · rename_i xs hx
        obtain ⟨p, vs, rfl, h1, rl⟩ := r.its hx
        have h' : RQ W Z G H Q (.tup xs) := KF.rq h fun _ z => nomatch z
        rcases h1 with h1 | h1
        · exact ⟨p, vs, rfl, .inl ⟨.of h1, fun l hl => RQ.layT gi hl rl h'⟩⟩
        · exact ⟨p, vs, rfl, .inr ⟨.of h1, h'.at gi (Rel.tup h1 (gi.notTup h1) rl).s⟩⟩
      · exact h.elim
  · cases r with
    | cons r t =>
      cases t
      split at h
      · rename_i xs hx
        obtain ⟨p, vs, rfl, h1, rl⟩ := seq_of r hx
        exact ⟨p, vs, rfl, h1, fun l hl => KF.lay zo gi hl rl h⟩
      · exact h.elim
  · cases r with
    | cons r t =>
      cases t
      split at h
      · rename_i xs hx
        obtain ⟨hc, h⟩ := wp_if h
        rw [Bool.and_eq_true, decide_eq_true_eq] at hc
        obtain ⟨p, vs, rfl, h1, rl⟩ := r.its hx
        exact ⟨Z, G, p, vs, xs, rfl, h1, rl, hc.1, hc.2, fun ys p hp ry => KF.lay zo gi hp ry h⟩
      · exact h.elim
  · cases r with
    | cons r t =>
      cases t
      split at h
      · rename_i xs hx
        obtain ⟨a, rfl, h1⟩ := listBools r hx
        exact ⟨a, xs, rfl, h1, fb h⟩
      · exact h.elim
  · cases r with
    | cons r t =>
      cases t
      split at h
      · rename_i xs hx
        obtain ⟨a, rfl, h1⟩ := listBools r hx
        exact ⟨a, xs, rfl, h1, fb h⟩
      · exact h.elim
  · cases r with
    | cons r t =>
      cases t
      split at h
      · rename_i xs hx
        obtain ⟨a, rfl, h1⟩ := listInts r hx
        exact ⟨a, xs, rfl, h1, fi h⟩
      · exact h.elim
  · cases r with
    | cons r t =>
      cases t
      split at h
      · rename_i n ns hx
        obtain ⟨a, rfl, h1⟩ := listInts r hx
        refine ⟨a, n :: ns, rfl, h1, Nat.succ_pos _, fun m hm hmin => ?_⟩
        obtain ⟨⟨a1, a2⟩, a3⟩ := foldl_min ns n
        have e : m = ns.foldl min n := by
          have b1 := hmin (ns.foldl min n) (mem_or a3)
          have b2 : ns.foldl min n ≤ m := by
            rcases List.mem_cons.mp hm with rfl | hm
            · exact a1
            · exact a2 m hm
          omega
        rw [e]
        exact fi h
      · exact h.elim
  · cases r with
    | cons r t =>
      cases t
      split at h
      · rename_i n ns hx
        obtain ⟨a, rfl, h1⟩ := listInts r hx
        refine ⟨a, n :: ns, rfl, h1, Nat.succ_pos _, fun m hm hmin => ?_⟩
        obtain ⟨⟨a1, a2⟩, a3⟩ := foldl_max ns n
        have e : m = ns.foldl max n := by
          have b1 := hmin (ns.foldl max n) (mem_or a3)
          have b2 : m ≤ ns.foldl max n := by
            rcases List.mem_cons.mp hm with rfl | hm
            · exact a1
            · exact a2 m hm
          omega
        rw [e]
        exact fi h
      · exact h.elim
  · cases r with
    | cons r t =>
      cases t with
      | cons r2 t =>
        cases t
        exact ⟨_, _, by rw [r.int, r2.int], fi h⟩
  · cases r with
    | cons r t =>
      cases t with
      | cons r2 t =>
        cases t
        exact ⟨_, _, by rw [r.int, r2.int], fi h⟩
  · cases r with
    | cons r t =>
      cases t
      exact ⟨_, by rw [r.int], fi h⟩
  · cases r with
    | cons r t =>
      cases t
      exact .inl ⟨_, by rw [r.int], fi h⟩
  · cases r with
    | cons r t =>
      cases t
      exact .inr ⟨_, by rw [r.bl], fi h⟩
  · cases hr
  · cases hr
  · exact h.elim
/-- whether it is a type -/
def biTy : Bi → Bool
  | .tuple => true | .list => true | .int => true | .tupRange => true | .lstRange => true | _ => false
def biVal (f : Bi) : Value := if biTy f then .type (biName f) else .builtin (biName f)
theorem bi_boot (f : Bi) : bootBuiltins (Str.ofString (biName f)) = some (biVal f) := by
  cases f <;> decide +kernel
theorem bi_free (f : Bi) : Str.ofString (biName f) ∈ blts := by
  cases f <;> decide +kernel
theorem bi_plain (f : Bi) : Str.ofString (biName f) ≠ ("__name__" : Str) ∧ (Str.ofString (biName f) == ("__debug__" : Str)) = false := by
  cases f <;> decide +kernel
theorem bi_rule (c : Cn W F k sc X) (f : Bi) (hr : biRange f = false) : CallR X (biVal f) (rB W f) := by
  have e := c.K
  have hc := c.calm
  have hu := c.un
  cases f with
  | len =>
    have q := CallR.or (call_len_seq (X := X)) call_len_str
    rw [e] at q
    exact q
  | tuple =>
    have q := call_tuple_of (X := X)
    rw [e] at q
    exact q
  | list =>
    have q := call_list_of (X := X)
    rw [e] at q
    exact q
  | sorted => exact cr_sortedD (by omega)
  | all =>
    have q := cr_all (X := X) hc
    rw [e] at q
    exact q
  | any =>
    have q := cr_any (X := X) hc
    rw [e] at q
    exact q
  | sum =>
    have q := cr_sum (X := X) hc
    rw [e] at q
    exact q
  | min1 =>
    have q := cr_min (X := X) hc
    rw [e] at q
    exact q
  | max1 =>
    have q := cr_max (X := X) hc
    rw [e] at q
    exact q
  | min2 => exact call_min2 hc
  | max2 => exact call_max2 hc
  | abs => exact call_abs
  | int => exact call_int1
  | tupRange => cases hr
  | lstRange => cases hr
theorem bi_call {f : Bi} {e : Expr} {es : List Expr} {t : TA} {r : List V → Hp → VK → Prop} {p pos : Pos} (hc : CallR X (biVal f) r) (hg : Gl X (Str.ofString (biName f))) (hm : X.mg (Str.ofString (biName f)) = none) (ha : PA X (e :: es) t)
    (he : starEach (e :: es) X.env = (false, eval e X.env) :: starEach es X.env) (hpl : (backTo pos (starEach es X.env)).any (·.1) = false) : PE X (.Call (.Name (Str.ofString (biName f)) p) (e :: es) [] pos) (tCB r t) := by
  obtain ⟨h1, h2⟩ := bi_plain f
  have hb := bi_boot f
  unfold biVal at hc hb
  cases ht : biTy f with
  | true =>
    rw [ht, if_pos rfl] at hc hb
    exact pe_callTy hc hg hm hb ha h1 h2 he hpl
  | false =>
    rw [ht, if_neg Bool.false_ne_true] at hc hb
    exact pe_callB hc hg hm hb ha h1 h2 he hpl
theorem g_blt1 (c : Cn W F k sc X) {f : Bi} {a : E} {ea : Expr} {p pos : Pos} (hg : gl sc (Str.ofString (biName f)) = true) (hr : biRange f = false) (hs : notStar ea = true) (ha : PE X ea (rdE W F a)) :
    PE X (.Call (.Name (Str.ofString (biName f)) p) [ea] [] pos) (rdE W F (.blt f (.cons a .nil))) :=
  PE.imp (bi_call (bi_rule c f hr) (gl_ok c hg) (c.bl _ (bi_free f)) (g_cons hs ha g_nil) (star_ok hs _) rfl) fun σ H Q q => blt_in q fun Z G H' vs ds gi zo r h => rB_in gi zo r h hr
theorem g_blt2 (c : Cn W F k sc X) {f : Bi} {a b : E} {ea eb : Expr} {p pos : Pos} (hg : gl sc (Str.ofString (biName f)) = true) (hr : biRange f = false) (hs : notStar ea = true) (hs2 : notStar eb = true) (ha : PE X ea (rdE W F a)) (hb : PE X eb (rdE W F b)) :
    PE X (.Call (.Name (Str.ofString (biName f)) p) [ea, eb] [] pos) (rdE W F (.blt f (.cons a (.cons b .nil)))) :=
  PE.imp (bi_call (bi_rule c f hr) (gl_ok c hg) (c.bl _ (bi_free f)) (g_cons hs ha (g_cons hs2 hb g_nil)) (star_ok hs _) (by rw [star_ok hs2]; rfl)) fun σ H Q q => blt_in q fun Z G H' vs ds gi zo r h => rB_in gi zo r h hr
/-! tuple(range(n)), list(range(n)) -/
theorem rg_rel {Z : Addr → Prop} {G : Gh} {H : Hp} (a b : Int) : RelL W Z G H (rgV a b) ((List.range (b - a).toNat).map fun k => D.int (a + (k : Nat))) := by
  unfold rgV
  generalize (List.range (b - a).toNat) = l
  induction l with
  | nil => exact .nil
  | cons x l ih => exact .cons (.int _) ih
theorem small_rg {n : Int} (h : n ≤ maxL) (hs : small n = true) : RgOk 0 n := by
  unfold small at hs
  simp only [Bool.and_eq_true, decide_eq_true_eq] at hs
  have : maxL = 1000000 := rfl
  exact ⟨by omega, by omega, hs.1, hs.2, by omega⟩
theorem free_of (c : Cn W F k sc X) {x : Str} (h : x ∈ blts) : X.mg x = none := c.bl x h
theorem bltR_first {f : Bi} {a : E} {σ : L2.St} {H : Hp} {Q : VK} {R : V → Hp → Prop} {g : List D → D} (h1 : ∀ n : Int, bltin f [.int n] = if (n ≤ maxL) ∧ small n = true then T.ret (g ((List.range n.toNat).map fun k => .int (k : Nat))) else T.bad)
    (h2 : ∀ d, (∀ n, d ≠ .int n) → bltin f [d] = T.bad) (hnc : ∀ l, (g l).isCell = false) (q : rdE W F (.blt f (.cons a .nil)) σ H Q)
    (n : ∀ Z G H' n, RgOk 0 n → GInv W G H' → ZOk Z G H' → KF (E.blt f (.cons a .nil)).fresh W Z G H' Q (g ((List.range (n - 0).toNat).map fun k => .int (0 + (k : Nat)))) → R (.int n) H') : rdE W F a σ H R := by
  obtain ⟨Z, G, env, s, w⟩ := q
  have w0 : (ev F a env >>= fun d => bltin f [d]).wp (KX [] (E.blt f (.cons a .nil)).fresh W Z G H env σ Q) := by
    have w1 := w
    rw [show ev F (.blt f (.cons a .nil)) env = ((ev F a env >>= fun x => (evs F .nil env >>= fun xs => T.ret (x :: xs))) >>= fun ds => bltin f ds) from rfl, T.bind_assoc] at w1
    exact w1
  refine s.first w0 fun d G1 H1 v e1 g1 s1 r1 w1 => ?_
  by_cases hd : ∃ n, d = .int n
  · obtain ⟨m, rfl⟩ := hd
    rw [h1] at w1
    obtain ⟨hn, w2⟩ := wp_if w1
    rw [r1.int]
    refine n Z G1 H1 m (small_rg hn.1 hn.2) g1 s1.zo ?_
    have z := KF.step e1 g1 (KX.kf w2 (hnc _))
    simpa using z
  · rw [h2 d fun n e => hd ⟨n, e⟩] at w1
    exact w1.elim
theorem g_tupR (c : Cn W F k sc X) {a : E} {ea : Expr} {p p2 pos pos2 : Pos} (hg : gl sc (Str.ofString (biName .tupRange)) = true) (hg2 : gl sc ("range" : Str) = true) (hs : notStar ea = true) (ha : PE X ea (rdE W F a)) :
    PE X (.Call (.Name (Str.ofString (biName .tupRange)) p) [.Call (.Name ("range" : Str) p2) [ea] [] pos2] [] pos) (rdE W F (.blt .tupRange (.cons a .nil))) := by
  have pr := prg_1 (p := p2) (pos := pos2) (gl_ok c hg2) (free_of c (by decide +kernel)) ha (star_ok hs _)
  refine PE.imp (pe_tupRg c.calm (gl_ok c hg) (c.bl _ (bi_free .tupRange)) pr rfl) fun σ H Q q => ?_
  exact bltR_first (g := D.tup) (fun n => rfl) (fun d hd => by cases d <;> first | rfl | exact absurd rfl (hd _)) (fun _ => rfl) q fun Z G H' n ok gi zo kf => ⟨n, rfl, ok, fun q hq => RQ.layT gi hq (rg_rel 0 n) (KF.rq kf fun _ z => nomatch z)⟩
theorem g_lstR (c : Cn W F k sc X) {a : E} {ea : Expr} {p p2 pos pos2 : Pos} (hg : gl sc (Str.ofString (biName .lstRange)) = true) (hg2 : gl sc ("range" : Str) = true) (hs : notStar ea = true) (ha : PE X ea (rdE W F a)) :
    PE X (.Call (.Name (Str.ofString (biName .lstRange)) p) [.Call (.Name ("range" : Str) p2) [ea] [] pos2] [] pos) (rdE W F (.blt .lstRange (.cons a .nil))) := by
  have pr := prg_1 (p := p2) (pos := pos2) (gl_ok c hg2) (free_of c (by decide +kernel)) ha (star_ok hs _)
  refine PE.imp (pe_listRg c.calm (gl_ok c hg) (c.bl _ (bi_free .lstRange)) pr rfl) fun σ H Q q => ?_
  exact bltR_first (g := D.lst) (fun n => rfl) (fun d hd => by cases d <;> first | rfl | exact absurd rfl (hd _)) (fun _ => rfl) q fun Z G H' n ok gi zo kf => ⟨n, rfl, ok, fun q hq => KF.lay zo gi hq (rg_rel 0 n) kf⟩
/-! ### isinstance -/
theorem ty_of {Z : Addr → Prop} {G : Gh} {H : Hp} {v : V} {d : D} (r : RelS W Z G H v d) : (∃ t, TyX W.K H v (.type t) ∧ ∀ kd : Ki, ∀ b, isiD kd d = T.ret (.bl b) → PySem.W.kitAny W.K (.type t) ((kiNames kd).map Value.type) = some b) ∨ ∀ kd, isiD kd d = T.bad := by
  cases d with
  | crowd _ _ _ => exact .inr fun kd => by cases kd <;> rfl
  | hand => exact .inr fun kd => by cases kd <;> rfl
  | scr _ => exact .inr fun kd => by cases kd <;> rfl
  | tape _ => exact .inr fun kd => by cases kd <;> rfl
  | emp =>
    cases r with
    | emp h1 g => exact .inl ⟨_, .base (.dK h1), fun kd b h => by cases kd <;> cases h <;> rfl⟩
  | non => cases r; exact .inl ⟨_, .base .non, fun kd b h => by cases kd <;> cases h <;> rfl⟩
  | bl x => cases r; exact .inl ⟨_, .base (.bl _), fun kd b h => by cases kd <;> cases h <;> rfl⟩
  | int x => cases r; exact .inl ⟨_, .base (.int _), fun kd b h => by cases kd <;> cases h <;> rfl⟩
  | str x => cases r; exact .inl ⟨_, .base (.str _), fun kd b h => by cases kd <;> cases h <;> rfl⟩
  | tup xs =>
    cases r with
    | tup h1 g q => exact .inl ⟨_, .base (.tup h1), fun kd b h => by cases kd <;> cases h <;> rfl⟩
  | lst xs =>
    cases r with
    | lst h1 g z q => exact .inl ⟨_, .base (.lst h1), fun kd b h => by cases kd <;> cases h <;> rfl⟩
  | cell xs =>
    obtain ⟨p, vs, rfl, h1, z, q⟩ := r
    exact .inl ⟨_, .base (.lst h1), fun kd b h => by cases kd <;> cases h <;> rfl⟩
def tyNames : List String := ["int", "bool", "tuple", "str", "list", "dict"]
theorem ty_boot : ∀ n ∈ tyNames, bootBuiltins (Str.ofString n) = some (.type n) ∧ Str.ofString n ∈ blts ∧ Str.ofString n ≠ ("__name__" : Str) ∧ (Str.ofString n == ("__debug__" : Str)) = false := by
  intro n hn
  simp only [tyNames, List.mem_cons, List.not_mem_nil, or_false] at hn
  rcases hn with rfl | rfl | rfl | rfl | rfl | rfl <;> decide +kernel
theorem pe_ty (c : Cn W F k sc X) {n : String} {p : Pos} (hn : n ∈ tyNames) (hg : gl sc (Str.ofString n) = true) : PE X (.Name (Str.ofString n) p) (tC (.ty n)) := by
  obtain ⟨h1, h2, h3, h4⟩ := ty_boot n hn
  exact pe_bltn (v := .ty n) (gl_ok c hg) (c.bl _ h2) h1 rfl h3 h4
theorem kit_one {K : PySem.W.Frag} {t u : Value} {b : Bool} (h : PySem.W.kitAny K t [u] = some b) : PySem.W.kitOne K t u = some b := by
  unfold PySem.W.kitAny at h
  cases e : PySem.W.kitOne K t u with
  | none => rw [e] at h; cases h
  | some x =>
    rw [e] at h
    cases x with
    | true => exact h
    | false => exact h
theorem isi_noC {kd : Ki} {d : D} {q : D → Prop} (h : (isiD kd d).wp q) : ∃ b, isiD kd d = T.ret (.bl b) ∧ q (.bl b) := by
  cases kd <;> cases d <;> first | exact h.elim | exact ⟨_, rfl, h⟩
theorem isi_first {kd : Ki} {a : E} {σ : L2.St} {H : Hp} {Q : VK} {R : V → Hp → Prop} (q : rdE W F (.isi a kd) σ H Q)
    (n : ∀ v t H' b, TyX W.K H' v (.type t) → PySem.W.kitAny W.K (.type t) ((kiNames kd).map Value.type) = some b → (∀ G G', GInv W G H' → Ext G H' G' H' → True) → (∃ G, GInv W G H' ∧ ∀ H2, Ext G H' G H2 → GInv W G H2 → Q (.bl b) H2) → R v H') : rdE W F a σ H R := by
  obtain ⟨Z, G, env, s, w⟩ := q
  refine s.first (show (ev F a env >>= fun x => isiD kd x).wp (KX [] false W Z G H env σ Q) from w) fun d G1 H1 v e1 g1 s1 r1 w1 => ?_
  obtain ⟨b, hb, hq⟩ := isi_noC w1
  rcases ty_of r1 with ⟨t, ht, hk⟩ | hbad
  · refine n v t H1 b ht (hk kd b hb) (fun _ _ _ _ => trivial) ⟨G1, g1, fun H2 e2 g2 => ?_⟩
    exact KX.at g2 (.bl b) (fun _ z => nomatch z) (KX.step (e1.trans e2) g2 hq)
  · rw [hbad kd] at hb
    cases hb
theorem isi_plain : bootBuiltins ("isinstance" : Str) = some (.builtin "isinstance") ∧ ("isinstance" : Str) ∈ blts ∧ ("isinstance" : Str) ≠ "__name__" ∧ (("isinstance" : Str) == ("__debug__" : Str)) = false := by decide +kernel
theorem g_isi1 (c : Cn W F k sc X) {a : E} {kd : Ki} {t : String} {ea : Expr} {p p2 pos : Pos} (hk : kiNames kd = [t]) (ht : t ∈ tyNames) (hg : gl sc ("isinstance" : Str) = true) (hgt : gl sc (Str.ofString t) = true) (hs : notStar ea = true) (ha : PE X ea (rdE W F a)) :
    PE X (.Call (.Name ("isinstance" : Str) p) [ea, .Name (Str.ofString t) p2] [] pos) (rdE W F (.isi a kd)) := by
  obtain ⟨b1, b2, b3, b4⟩ := isi_plain
  have q := call_isi (X := X)
  rw [c.K] at q
  refine PE.imp (pe_callB q (gl_ok c hg) (c.bl _ b2) b1 (pa_cons ha (pa_cons (pe_ty c ht hgt) pa_nil) (star_ok hs _)) b3 b4 (star_ok hs _) rfl) fun σ H Q q => ?_
  refine isi_first q fun v ty H' b hty hkit _ ⟨G, gi, fin⟩ => ?_
  rw [hk] at hkit
  exact ⟨v, .ty t, .type ty, .type t, b, rfl, .ty t, hty, kit_one hkit, fin H' (Ext.refl G H') gi⟩
theorem g_isi2 (c : Cn W F k sc X) {a : E} {kd : Ki} {t u : String} {ea : Expr} {p p2 p3 p4 pos : Pos} {kk : Nat} (hk : kiNames kd = [t, u]) (ht : t ∈ tyNames) (hu : u ∈ tyNames) (hg : gl sc ("isinstance" : Str) = true) (hgt : gl sc (Str.ofString t) = true) (hgu : gl sc (Str.ofString u) = true) (hs : notStar ea = true) (ha : PE X ea (rdE W F a)) :
    PE X (.Call (.Name ("isinstance" : Str) p) [ea, .Tuple [.Name (Str.ofString t) p2, .Name (Str.ofString u) p3] kk p4] [] pos) (rdE W F (.isi a kd)) := by
  obtain ⟨b1, b2, b3, b4⟩ := isi_plain
  have q := call_isiT (X := X)
  rw [c.K] at q
  refine PE.imp (pe_callB q (gl_ok c hg) (c.bl _ b2) b1 (pa_cons ha (pa_cons (pe_tup (pa_cons (pe_ty c ht hgt) (pa_cons (pe_ty c hu hgu) pa_nil))) pa_nil) (star_ok hs _)) b3 b4 (star_ok hs _) rfl) fun σ H Q q => ?_
  refine isi_first q fun v ty H' b hty hkit _ ⟨G, gi, fin⟩ => ?_
  rw [hk] at hkit
  refine ⟨by rw [sizeLine_eq]; show 2 ≤ 16777216; decide, fun tp hp => ?_⟩
  refine ⟨v, tp, _, .type ty, _, b, rfl, upd_same, .cons (.ty t) (.cons (.ty u) .nil), ?_, hkit, fin _ (Ext.new hp) (gi.new hp)⟩
  cases hty with
  | base h =>
    refine .base ?_
    cases h with
    | non => exact .non
    | bl x => exact .bl x
    | int i => exact .int i
    | str i => exact .str i
    | flt i => exact .flt i
    | lst e => exact .lst (by rw [upd_ne (ne_of_none e hp)]; exact e)
    | frz e => exact .frz (by rw [upd_ne (ne_of_none e hp)]; exact e)
    | tup e => exact .tup (by rw [upd_ne (ne_of_none e hp)]; exact e)
    | dK e => exact .dK (by rw [upd_ne (ne_of_none e hp)]; exact e)
    | dT e => exact .dT (by rw [upd_ne (ne_of_none e hp)]; exact e)
  | byt b => exact .byt b
  | set e => exact .set (by rw [upd_ne (ne_of_none e hp)]; exact e)
  | kList e c => exact .kList e c
  | kTuple e c => exact .kTuple e c
  | kDict e c => exact .kDict e c
  | fTuple e => exact .fTuple (by rw [upd_ne (ne_of_none e hp)]; exact e)
  | fDict e => exact .fDict (by rw [upd_ne (ne_of_none e hp)]; exact e)
end
end Fm

/-! FmK: targets, what is walked, comprehensions. -/
namespace Fm
open PySem PySem.Spec PyProof.Rows L2
section
variable {W : Wd} {F : Fns} {k : Kn} {sc : Scope} {X : Cx}
/-! ### storing -/
theorem SOk.put {Z : Addr → Prop} {G : Gh} {H : Hp} {env : Env} {σ : L2.St} {v : V} {d : D} (s : SOk W Z G H env σ) (r : Rel W Z G H v d) (i : Nat) : SOk W Z G H (env.set i (some d)) (σ.set i (some v)) := by
  have hd : d.isCell = false := by
    cases d with
    | cell xs => cases r
    | _ => rfl
  refine ⟨by rw [List.length_set, List.length_set]; exact s.len, s.gi, s.zo, fun j e h => ?_, fun j l xs ys p h1 h2 h3 h4 => ?_⟩
  · by_cases hj : i = j
    · subst hj
      by_cases hl : i < env.length
      · rw [List.getElem?_set_self hl] at h
        cases h
        exact ⟨v, List.getElem?_set_self (Nat.lt_of_lt_of_le hl s.len), r.s⟩
      · rw [List.getElem?_eq_none (by rw [List.length_set]; omega)] at h
        cases h
    · rw [List.getElem?_set_ne hj] at h ⊢
      exact s.sl j e h
  · have ne : ∀ {j xs}, (env.set i (some d))[j]? = some (some (.cell xs)) → i ≠ j ∧ env[j]? = some (some (.cell xs)) := fun {j xs} h => by
      by_cases hj : i = j
      · subst hj
        by_cases hl : i < env.length
        · rw [List.getElem?_set_self hl] at h
          cases h
          cases hd
        · rw [List.getElem?_eq_none (by rw [List.length_set]; omega)] at h
          cases h
      · rw [List.getElem?_set_ne hj] at h
        exact ⟨hj, h⟩
    obtain ⟨n1, e1⟩ := ne h1
    obtain ⟨n2, e2⟩ := ne h2
    rw [List.getElem?_set_ne n1] at h3
    rw [List.getElem?_set_ne n2] at h4
    exact s.sep j l xs ys p e1 e2 h3 h4
theorem wipe_get (σ : L2.St) (j : Nat) : ∀ vs : List Nat, (wipe σ vs)[j]? = if j ∈ vs then (σ[j]?).map fun _ => none else σ[j]?
  | [] => by simp [wipe]
  | v :: vs => by
    unfold wipe
    by_cases hj : v = j
    · subst hj
      rw [if_pos List.mem_cons_self]
      by_cases hl : v < σ.length
      · rw [List.getElem?_set_self (by rw [wipe_length]; exact hl), List.getElem?_eq_getElem hl]
        rfl
      · rw [List.getElem?_eq_none (by rw [List.length_set, wipe_length]; omega), List.getElem?_eq_none (by omega)]
        rfl
    · rw [List.getElem?_set_ne hj, wipe_get σ j vs]
      have e : (j ∈ v :: vs) ↔ j ∈ vs := by rw [List.mem_cons]; exact ⟨fun h => h.resolve_left (Ne.symm hj), .inr⟩
      by_cases hm : j ∈ vs
      · rw [if_pos hm, if_pos (e.mpr hm)]
      · rw [if_neg hm, if_neg fun z => hm (e.mp z)]
theorem wipeE_get (env : Env) (j : Nat) : ∀ vs : List Nat, (wipeE env vs)[j]? = if j ∈ vs then (env[j]?).map fun _ => none else env[j]?
  | [] => by simp [wipeE]
  | v :: vs => by
    have hlen : ∀ vs, (wipeE env vs).length = env.length := fun vs => by
      induction vs with
      | nil => rfl
      | cons v vs ih => unfold wipeE; rw [List.length_set, ih]
    unfold wipeE
    by_cases hj : v = j
    · subst hj
      rw [if_pos List.mem_cons_self]
      by_cases hl : v < env.length
      · rw [List.getElem?_set_self (by rw [hlen]; exact hl), List.getElem?_eq_getElem hl]
        rfl
      · rw [List.getElem?_eq_none (by rw [List.length_set, hlen]; omega), List.getElem?_eq_none (by omega)]
        rfl
    · rw [List.getElem?_set_ne hj, wipeE_get env j vs]
      have e : (j ∈ v :: vs) ↔ j ∈ vs := by rw [List.mem_cons]; exact ⟨fun h => h.resolve_left (Ne.symm hj), .inr⟩
      by_cases hm : j ∈ vs
      · rw [if_pos hm, if_pos (e.mpr hm)]
      · rw [if_neg hm, if_neg fun z => hm (e.mp z)]
theorem wipeE_length (env : Env) : ∀ vs : List Nat, (wipeE env vs).length = env.length
  | [] => rfl
  | v :: vs => by unfold wipeE; rw [List.length_set, wipeE_length env vs]
theorem SOk.wiped {Z : Addr → Prop} {G : Gh} {H : Hp} {env : Env} {σ : L2.St} (s : SOk W Z G H env σ) (vs : List Nat) : SOk W Z G H (wipeE env vs) (wipe σ vs) := by
  have old : ∀ {j : Nat} {d : D}, (wipeE env vs)[j]? = some (some d) → j ∉ vs ∧ env[j]? = some (some d) := fun {j d} h => by
    rw [wipeE_get] at h
    by_cases hm : j ∈ vs
    · rw [if_pos hm] at h
      cases e : env[j]? with
      | none => rw [e] at h; cases h
      | some o => rw [e] at h; cases h
    · rw [if_neg hm] at h
      exact ⟨hm, h⟩
  refine ⟨by rw [wipeE_length, wipe_length]; exact s.len, s.gi, s.zo, fun j e h => ?_, fun j l xs ys p h1 h2 h3 h4 => ?_⟩
  · obtain ⟨hm, h⟩ := old h
    rw [wipe_get, if_neg hm]
    exact s.sl j e h
  · obtain ⟨m1, e1⟩ := old h1
    obtain ⟨m2, e2⟩ := old h2
    rw [wipe_get, if_neg m1] at h3
    rw [wipe_get, if_neg m2] at h4
    exact s.sep j l xs ys p e1 e2 h3 h4
theorem wipe_set {σ : L2.St} {i : Nat} {x : Option V} {vs : List Nat} (h : i ∈ vs) : wipe (σ.set i x) vs = wipe σ vs := by
  apply List.ext_getElem?
  intro j
  rw [wipe_get, wipe_get]
  by_cases hj : i = j
  · subst hj
    rw [if_pos h, if_pos h]
    by_cases hl : i < σ.length
    · rw [List.getElem?_set_self hl, List.getElem?_eq_getElem hl]
      rfl
    · rw [List.getElem?_eq_none (by rw [List.length_set]; omega), List.getElem?_eq_none (by omega)]
  · rw [List.getElem?_set_ne hj]
theorem wipe_wipe (σ : L2.St) (vs : List Nat) : wipe (wipe σ vs) vs = wipe σ vs := by
  apply List.ext_getElem?
  intro j
  rw [wipe_get, wipe_get]
  by_cases hj : j ∈ vs
  · rw [if_pos hj, if_pos hj]
    cases σ[j]? <;> rfl
  · rw [if_neg hj, if_neg hj]
/-! ### targets -/
def gsTg : List Nat → TGs
  | [] => gNil
  | i :: is => gCons (gName i) (gsTg is)
def gTg (K : PySem.W.Frag) : Tg → TG
  | .one i => gName i
  | .many is => gTup K is.length (gsTg is)
theorem pg_one (c : Cn W F k sc X) {i : Nat} {x : Str} {pos : Pos} (h : nameOk k sc X.fn i x = true) : PG X (.Name x pos) (gName i) := by
  unfold nameOk at h
  simp only [Bool.and_eq_true, Bool.or_eq_true, decide_eq_true_eq] at h
  obtain ⟨h1, h2⟩ := h
  refine pg_name (by rw [c.N]; exact c.nd) (by rw [c.N]; exact h1) ?_ ?_
  · unfold L2.Loc
    rw [c.sc]
    exact h2.imp id fun z => z.1
  · rw [c.sc]
    exact h2.elim .inr fun z => .inl z.2
theorem assignEach_cons {e : Expr} {es : List Expr} {x : Str} {p : Pos} {env : PySem.Env} (h : e = .Name x p) : (assignEach (e :: es) env).map (·.2) = assign e env :: (assignEach es env).map (·.2) := by
  subst h
  rfl
theorem pgs_all (c : Cn W F k sc X) : ∀ {is : List Nat} {es : List Expr}, allNames k sc X.fn is es = true → PGs X es (gsTg is)
  | [], [], _ => pgs_nil
  | [], _ :: _, h => by cases h
  | _ :: _, [], h => by cases h
  | i :: is, e :: es, ha => by
    have ha' : (nameM k sc X.fn i e && allNames k sc X.fn is es) = true := ha
    rw [Bool.and_eq_true] at ha'
    cases e with
    | Name x p => exact pgs_cons (pg_one c ha'.1) (pgs_all c ha'.2) (assignEach_cons rfl)
    | _ => cases ha'.1
theorem assignEach_len {fn : Str → Bool} {env : PySem.Env} : ∀ {is : List Nat} {es : List Expr}, allNames k sc fn is es = true → (assignEach es env).length = is.length ∧ (assignEach es env).findIdx? (·.1) = none
  | [], [], _ => ⟨rfl, rfl⟩
  | [], _ :: _, h => by cases h
  | _ :: _, [], h => by cases h
  | i :: is, e :: es, ha => by
    have ha' : (nameM k sc fn i e && allNames k sc fn is es) = true := ha
    rw [Bool.and_eq_true] at ha'
    cases e with
    | Name x p =>
      obtain ⟨h1, h2⟩ := assignEach_len (env := env) ha'.2
      have e1 : assignEach (Expr.Name x p :: es) env = (false, assign (.Name x p) env) :: assignEach es env := rfl
      rw [e1]
      refine ⟨by rw [List.length_cons, h1, List.length_cons], ?_⟩
      rw [List.findIdx?_cons, h2]
      rfl
    | _ => cases ha'.1
theorem g_tg (c : Cn W F k sc X) {tg : Tg} {e : Expr} (h : chkTg k sc X.fn tg e = true) : PG X e (gTg W.K tg) := by
  cases tg with
  | one i =>
    unfold chkTg at h
    cases e <;> first | cases h | skip
    exact pg_one c h
  | many is =>
    unfold chkTg at h
    cases e <;> first | cases h | skip
    rename_i es kk pos
    obtain ⟨h1, h2⟩ := assignEach_len (k := k) (sc := sc) (fn := X.fn) (env := X.env) h
    have q := pg_tup (k := kk) (pos := pos) c.calm (pgs_all c h) h1 h2
    rw [c.K] at q
    exact q
/-- what a target does to the data -/
theorem gs_in {Z : Addr → Prop} {G : Gh} {H : Hp} {Q : L2.St → Hp → Prop} {q : Env → Prop} : ∀ {is : List Nat} {vs : List V} {ds : List D} {env : Env} {σ : L2.St}, SOk W Z G H env σ → RelL W Z G H vs ds → (setAll is ds env).wp q →
    (∀ env' σ', SOk W Z G H env' σ' → (∀ own : List Nat, (is.all fun i => own.contains i) = true → wipe σ' own = wipe σ own) → (∀ j, j ∉ is → env'[j]? = env[j]? ∧ σ'[j]? = σ[j]?) → q env' → Q σ' H) → is.length = vs.length ∧ gsTg is vs σ H Q
  | [], _, _, env, σ, s, .nil, w, n => ⟨rfl, rfl, n env σ s (fun _ _ => rfl) (fun _ _ => ⟨rfl, rfl⟩) w⟩
  | [], _, _, _, _, _, .cons _ _, w, _ => w.elim
  | _ :: _, _, _, _, _, _, .nil, w, _ => w.elim
  | i :: is, _, _, env, σ, s, .cons (v := v) (vs := vs) (d := d) (ds := ds) r t, w, n => by
    obtain ⟨h1, h2⟩ := gs_in (Q := Q) (q := q) (is := is) (s.put r i) t w fun env' σ' s' hw hj hq => n env' σ' s' (fun own ho => by
      rw [List.all_cons, Bool.and_eq_true] at ho
      rw [hw own ho.2, wipe_set (List.contains_iff_mem.mp ho.1)]) (fun j hm => by
      obtain ⟨a1, a2⟩ := hj j fun z => hm (List.mem_cons_of_mem _ z)
      have ne : i ≠ j := fun z => hm (z ▸ List.mem_cons_self)
      rw [a1, a2, List.getElem?_set_ne ne, List.getElem?_set_ne ne]
      exact ⟨rfl, rfl⟩) hq
    exact ⟨by rw [List.length_cons, List.length_cons, h1], v, vs, rfl, h2⟩
theorem tg_in {Z : Addr → Prop} {G : Gh} {H : Hp} {Q : L2.St → Hp → Prop} {q : Env → Prop} {tg : Tg} {v : V} {d : D} {env : Env} {σ : L2.St} (s : SOk W Z G H env σ) (r : Rel W Z G H v d) (w : (bindTg tg d env).wp q)
    (n : ∀ env' σ', SOk W Z G H env' σ' → (∀ own : List Nat, tgSub own tg = true → wipe σ' own = wipe σ own) → (∀ j, j ∉ tg.is → env'[j]? = env[j]? ∧ σ'[j]? = σ[j]?) → q env' → Q σ' H) : gTg W.K tg v σ H Q := by
  cases tg with
  | one i =>
    exact n _ _ (s.put r i) (fun own ho => wipe_set (List.contains_iff_mem.mp ho)) (fun j hj => by
      have ne : i ≠ j := fun z => hj (z ▸ List.mem_cons_self)
      rw [List.getElem?_set_ne ne, List.getElem?_set_ne ne]
      exact ⟨rfl, rfl⟩) w
  | many is =>
    cases d with
    | tup xs =>
      cases r with
      | tup h1 g rl =>
        obtain ⟨e, q'⟩ := gs_in s rl w n
        exact ⟨_, _, rfl, .of h1, e.symm, q'⟩
    | _ => exact w.elim
end
end Fm

/-! FmK1: enumerate of a tuple. -/
namespace Fm
open PySem PySem.Spec PyProof.Rows L2
abbrev itO (t : Addr) : Obj := ⟨.type "tuple_iterator", none, .fields #[.ref t, .int 0 0], #[]⟩
abbrev enO (b : Addr) : Obj := ⟨.type "enumerate", none, .fields #[.none, .bool false, .ref b, rawInt 0, .none, .none], #[]⟩
def enH (h : Heap) (t : Addr) : Heap := (h.push (itO t)).push (enO h.objs.size)
set_option maxHeartbeats 1000000 in
theorem enum_newT (t : Addr) (items : Array Value) :
    Meets (Builtin.«enumerate.__new__» ⟨[.type "enumerate", .ref t], []⟩) fun _ R s =>
      s.heap.IsTuple t items ∧
      R (.ok (.ret (.ref (s.heap.push (itO t)).objs.size))) { s with heap := enH s.heap t } :=
  .of_wp fun prog w A R s h => by
    obtain ⟨hp, g, d, tk, os⟩ := s
    obtain ⟨hL, h⟩ := h
    have hsub := sub_enumerate
    have q1 : ∀ {A' : Around} {E : Value → Shared → Prop} {Q : Value → Shared → Prop},
        Q (.ref hp.objs.size) ⟨hp.push (itO t), g, d, tk, os⟩ →
        wpAny (model prog w) A' (pyIter (.ref t)) Q E ⟨hp, g, d, tk, os⟩ :=
      fun {A' E Q} q => (begins_tuple t items).iter prog w A' E ⟨hp, g, d, tk, os⟩ Q hL q
    wp_walk using q1
    refine wpAny_stack_any fun st => wpAny_pure ?_
    split
    · rename_i c _ _ _ _ _
      cases (c == Value.type "enumerate") <;>
      · wp_walk using q1
        exact ⟨_, rfl, h⟩
    · wp_walk using q1
      exact ⟨_, rfl, h⟩
section
variable {prog : Program} {w : World} {A : Around} {E : Value → Shared → Prop} {s : Shared}
theorem call_enumT {t : Addr} {items : Array Value} {Q : Value → Shared → Prop} (hL : s.heap.IsTuple t items)
    (h : ∀ h', IsEnum h' (s.heap.objs.size + 1) s.heap.objs.size 0 .none → h'.IsTupleIter s.heap.objs.size t 0 →
      (∀ b o, s.heap.get? b = some o → h'.get? b = some o) → Q (.ref (s.heap.objs.size + 1)) { s with heap := h' }) :
    wpAny (model prog w) A (call (.type "enumerate") [.ref t]) Q E s := by
  refine callType_new F.called_enumerate (by decide) (F.typeCall_enumerate_1 _) (F.newCall_enumerate_1 _)
    (fun obj => F.args_object_init_2 obj _) F.entry_enumerate_new (enum_newT t items) ⟨hL, ?_⟩
  have hz : (s.heap.push (itO t)).objs.size = s.heap.objs.size + 1 := Heap.size_push ..
  have he := Heap.get?_push_size (s.heap.push (itO t)) (o := enO s.heap.objs.size) rfl
  have hi := Heap.get?_push_of_some (enO s.heap.objs.size) (Heap.get?_push_size s.heap (o := itO t) rfl)
  show _ ∧ _
  rw [hz] at he ⊢
  exact ⟨⟨_, he, rfl⟩, h _ he ⟨_, hi, rfl, rfl⟩ fun b o x => Heap.get?_push_of_some _ (Heap.get?_push_of_some _ x)⟩
end
/-- the tuple at a as it stands at each turn, each item in a new pair -/
def IteT (K : PySem.W.Frag) (a : Addr) : It where
  go := fun i H => ∃ (xs : List V) (x : V), SqT K H a xs ∧ xs[i]? = some x
  yld := fun i H v H' => ∃ T x, v = .ref T ∧ H T = none ∧ H' = upd H T (.tup [.int (i : Nat), x]) ∧ ∀ xs, SqT K H a xs → xs[i]? = some x
  stop := fun i H => ∃ xs : List V, SqT K H a xs ∧ xs.length ≤ i
/-- behind the last one -/
theorem drawsEnd {prog : Program} {w : World} {A : Around} (hh : A.handled = none) (it t : Addr) (items : Array Value) (i : Nat) (hx : items[i]? = none) :
    Draws prog w A it [it, t] 0 (fun _ _ => True) fun _ h => h.IsTupleIter it t i ∧ h.IsTuple t items where
  live := fun _ _ st => by
    obtain ⟨o, ho, _⟩ := st.1
    exact ⟨o, ho⟩
  frame := fun _ _ _ st hk => ⟨st.1.at fun o q => hk it (.head _) o q, st.2.at fun o q => hk t (.tail _ (.head _)) o q⟩
  item := fun j _ _ _ hj => absurd hj (Nat.not_lt_zero j)
  done := fun _ _ _ st hE => wpAny_nextOf_tuple_end hh st.1 st.2 hx hE
theorem in1_hd {A : Around} (h : A.handled = none) : A.in1.handled = none := h
theorem turn_enumT {P : Program} {w : World} {K : PySem.W.Frag} {elts : List Expr} {kk : Nat} {tpos : Pos} (a e it : Addr) :
    Turn P w K (.Tuple elts kk tpos) (IteT K a) [e, it] e (fun i h => (∃ old, IsEnum h e it (i : Nat) old) ∧ h.IsTupleIter it a i ∧ e ≠ it ∧ a ≠ it ∧ e ≠ a) where
  mem := List.mem_cons_self
  obj := fun i h st b hb => by
    obtain ⟨⟨old, he⟩, ⟨o, ho, hc, hd⟩, _⟩ := st
    rcases List.mem_cons.mp hb with z | z
    · rw [z]
      exact ⟨_, he, fun v q => nomatch q⟩
    · rw [List.mem_singleton.mp z]
      exact ⟨o, ho, fun v q => by rw [hd] at q; cases q⟩
  keep := fun i h h' st k => by
    obtain ⟨⟨old, he⟩, hi, hne⟩ := st
    exact ⟨⟨old, k e (.head _) _ he⟩, hi.at fun o q => k it (.tail _ (.head _)) o q, hne⟩
  item := by
    intro X hP hw hK hc i pins s σ H E I hf st hg
    subst hP hw hK
    obtain ⟨⟨old, he⟩, hit, hne, hat, hea⟩ := st
    obtain ⟨xs, x, hq, hx⟩ := hg
    obtain ⟨its, rv, p, hz⟩ := I.tuple hq
    obtain ⟨u, hu, ru⟩ := rv.get hx
    have hel : e < s.heap.objs.size := Heap.lt_size he
    have hil : it < s.heap.objs.size := by obtain ⟨_, q, _⟩ := hit; exact Heap.lt_size q
    have hu' : its.toArray[i]? = some u := by simpa using hu
    have hlt : i < its.toArray.size := by
      by_cases z : i < its.toArray.size
      · exact z
      · rw [Array.getElem?_eq_none (by omega)] at hu'; cases hu'
    refine wpAny_pyNext_enum_itemD (Draws.tuple (in1_hd (I.ok.hd hc)) it a hat its.toArray) he ⟨hit, p⟩ hlt hne (fun z => ?_) fun y h' tk hy ho hst hT hsz hk => ?_
    · rcases List.mem_cons.mp z with z | z
      · exact hne z
      · exact hea (List.mem_singleton.mp z)
    have ey : y = u := Option.some.inj (hy.symm.trans hu')
    subst ey
    refine ⟨_, rfl, wpAny_letOwnedTupleGo_enum (s := { s with heap := h', toks := tk + 1 }) ho fun h2 he' sb => ?_⟩
    have ne1 : s.heap.objs.size ≠ e := Nat.ne_of_gt hel
    have hT2 := (sb.2 _ ne1).trans hT
    have new : ObjOk X.prog X.w (upd H s.heap.objs.size (.tup [.int (i : Nat), x])) h2 s.heap.objs.size (.tup [.int (i : Nat), x]) :=
      ⟨by show 2 ≤ sizeLine; decide, [.int i tk, y], .cons ⟨_, rfl⟩ (.cons ru .nil), ⟨_, hT2, rfl, _, rfl⟩⟩
    have I1 : Inv X pins σ (upd H s.heap.objs.size (.tup [.int (i : Nat), x])) { s with heap := h2, toks := tk + 1 } := by
      refine I.turnedNew (ch := [e, it]) (fun b ob hb q => ?_) hf (Nat.le_refl _) new
      have n1 : b ≠ e := fun z => hb (z ▸ .head _)
      have n2 : b ≠ it := fun z => hb (z ▸ .tail _ (.head _))
      exact (sb.2 b n1).trans (hk b ob n1 n2 q)
    have hnew := I.hok.fresh (Nat.le_refl s.heap.objs.size)
    refine ⟨.ref s.heap.objs.size, _, I1, rfl, ⟨_, x, rfl, hnew, rfl, fun ys hy => by rw [I.tuple_inj hy hq]; exact hx⟩, ?_, fun b hb => ?_⟩
    · refine ⟨⟨y, ?_⟩, hst.1.at fun o q => (sb.2 it (Ne.symm hne)).trans q, hne, hat, hea⟩
      rw [show ((i + 1 : Nat) : Int) = (i : Int) + 1 by omega]
      exact he'
    · have hb' : b < s.heap.objs.size := by
        rcases List.mem_cons.mp hb with z | z
        · exact z ▸ hel
        · exact List.mem_singleton.mp z ▸ hil
      rw [upd_ne (Nat.ne_of_lt hb')]
      exact (hf b hb).1
  done := by
    intro X hP hw hK hc i pins s σ H E I hf st hg
    subst hP hw hK
    obtain ⟨⟨old, he⟩, hit, hne, hat, hea⟩ := st
    obtain ⟨xs, hq, hx⟩ := hg
    obtain ⟨its, rv, p, hz⟩ := I.tuple hq
    obtain ⟨f0, f1, f2, f3, f4, f5⟩ := hf it (.tail _ (.head _))
    have hl := rv.length
    have D := drawsEnd (prog := X.prog) (w := X.w) (in1_hd (I.ok.hd hc)) it a its.toArray i (by simp; omega)
    exact wpAny_pyNext_enum_endD (n := 0) D he ⟨hit, p⟩ fun h' eb => ⟨rfl, I.turned (t' := s.toks) (fun b o hb q => eb b o hb q) f0 f1 f3 f4 f5⟩
  self := fun A i s Q E st h => by
    obtain ⟨⟨_, he⟩, _⟩ := st
    exact wpAny_pyIter_enum he h
def iEnumA (K : PySem.W.Frag) (ta : TA) : TI := fun σ H R => ta σ H fun vs H1 => ∃ a xs, vs = [.ref a] ∧ ((SqL K H1 a xs ∧ R (Ite K a) H1) ∨ (SqT K H1 a xs ∧ R (IteT K a) H1))
theorem pi_enumA {X : Cx} {e : Expr} {ta : TA} {p pos tpos : Pos} {elts : List Expr} {kk : Nat} (hg : Gl X "enumerate") (hm : X.mg "enumerate" = none) (ha : PA X [e] ta) (hs : starEach [e] X.env = [(false, eval e X.env)] := by rfl) :
    PI X (.Tuple elts kk tpos) (.Call (.Name "enumerate" p) [e] [] pos) (iEnumA X.K ta) := by
  refine ⟨fun pins s σ H R I h => Call_ (ld_blt I hg hm boot_enumerate (PyProof.Rows.callWith_type1 (thn (ha.run pos pins s σ H _ I h) fun us s1 ⟨vs, H1, I1, r1, a, xs, ex, q⟩ => ?_) hs rfl))⟩
  subst ex
  cases r1 with
  | cons r rr =>
    cases rr
    cases r
    have hle : ∀ b, b ∈ [s1.heap.objs.size + 1, s1.heap.objs.size] → FpOk X pins H1 b := fun b hb => by
      have : s1.heap.objs.size ≤ b := by
        rcases List.mem_cons.mp hb with z | z
        · omega
        · have := List.mem_singleton.mp z
          omega
      exact I1.fpOk this (I1.hok.fresh this)
    rcases q with ⟨hq, q⟩ | ⟨hq, q⟩
    · obtain ⟨its, rv, p', hz⟩ := I1.list hq
      refine call_enumerate_list p'.isList fun h' he hit hsz hk => wpAny_pyIter_enum he ?_
      exact ⟨_, _, _, _, H1, rfl, I1.kept (t' := s1.toks) hk, turn_enum a (s1.heap.objs.size + 1) s1.heap.objs.size, ⟨⟨.none, he⟩, hit, Nat.succ_ne_self _⟩, hle, q⟩
    · obtain ⟨its, rv, p', hz⟩ := I1.tuple hq
      have hal : a < s1.heap.objs.size := by
        obtain ⟨o, ho, _⟩ := id p'
        exact Heap.lt_size ho
      refine call_enumT (show s1.heap.IsTuple a its.toArray from p') fun h' he hit hk => wpAny_pyIter_enum he ?_
      exact ⟨_, _, _, _, H1, rfl, I1.kept (t' := s1.toks) hk, turn_enumT a (s1.heap.objs.size + 1) s1.heap.objs.size, ⟨⟨.none, he⟩, hit, Nat.succ_ne_self _, Nat.ne_of_lt hal, Nat.ne_of_gt (Nat.lt_succ_of_lt hal)⟩, hle, q⟩
end Fm

/-! FmL: what is walked. -/
namespace Fm
open PySem PySem.Spec PyProof.Rows L2
section
variable {W : Wd} {F : Fns} {k : Kn} {sc : Scope} {X : Cx}
/-- lists and tuples are of bounded length -/
def Bd (H : Hp) : Prop := ∀ a xs, (H a = some (.lst xs) ∨ H a = some (.tup xs)) → xs.length ≤ sizeLine
theorem Inv.bd {pins : List (Addr × Obj)} {σ : L2.St} {H : Hp} {s : Shared} (I : Inv X pins σ H s) : Bd H := fun a xs h => by
  rcases h with h | h
  · obtain ⟨_, _, _, hz⟩ := I.list (.of h)
    exact hz
  · obtain ⟨_, _, _, hz⟩ := I.tuple (.of h)
    exact hz
theorem PE.bd {e : Expr} {t : TE} (h : PE X e t) : PE X e (fun σ H Q => t σ H fun v H1 => Bd H1 → Q v H1) :=
  ⟨fun pins s σ H Q I q => thn (h.run pins s σ H _ I q) fun v s1 ⟨x, H1, I1, r1, q1⟩ => ⟨x, H1, I1, r1, q1 (Inv.bd I1)⟩⟩
theorem PA.bd {es : List Expr} {t : TA} (h : PA X es t) : PA X es (fun σ H Q => t σ H fun v H1 => Bd H1 → Q v H1) :=
  ⟨fun ps pins s σ H Q I q => thn (h.run ps pins s σ H _ I q) fun v s1 ⟨x, H1, I1, r1, q1⟩ => ⟨x, H1, I1, r1, q1 (Inv.bd I1)⟩⟩
/-- an item: as it stands, or a new tuple of such -/
abbrev Sh := Sum V (List V)
inductive ShR (W : Wd) (Z : Addr → Prop) (G : Gh) (H : Hp) : Sh → D → Prop
  | one {v : V} {d : D} : Rel W Z G H v d → ShR W Z G H (.inl v) d
  | tup {vs : List V} {ds : List D} : RelL W Z G H vs ds → ShR W Z G H (.inr vs) (.tup ds)
theorem ShR.evo {Z Z' : Addr → Prop} {G G' : Gh} {H H' : Hp} {c : Sh} {d : D} (zl : ∀ p, Z p → ∃ xs, H p = some (.lst xs)) (e : Evo Z G H Z' G' H') (r : ShR W Z G H c d) : ShR W Z' G' H' c d := by
  cases r with
  | one r => exact .one (r.evo zl e)
  | tup r => exact .tup (r.evo zl e)
def Yld (H' : Hp) (x : V) (H2 : Hp) : Sh → Prop
  | .inl v => H2 = H' ∧ x = v
  | .inr vs => ∃ T, x = .ref T ∧ H' T = none ∧ H2 = upd H' T (.tup vs)
structure Wk (W : Wd) (Z : Addr → Prop) (G : Gh) (H : Hp) (J : It) (ks : List (Addr × HO)) (sh : List Sh) (ds : List D) : Prop where
  at_ : ∀ q ∈ ks, H q.1 = some q.2 ∧ G q.1 = none
  rel : Paired (ShR W Z G H) sh ds
  len : sh.length ≤ sizeLine
  stop : ∀ H', (∀ q ∈ ks, H' q.1 = some q.2) → ∀ i, sh.length ≤ i → J.stop i H'
  go : ∀ H', (∀ q ∈ ks, H' q.1 = some q.2) → ∀ i c, sh[i]? = some c → J.go i H' ∧ ∀ x H2, J.yld i H' x H2 → Yld H' x H2 c
/-- a place that is walked is no name's own list, or that of a name walked -/
def Ks (Z : Addr → Prop) (env : Env) (σ : L2.St) (ws : List Nat) (ks : List (Addr × HO)) : Prop := ∀ q ∈ ks, ¬ Z q.1 ∨ ∃ i ∈ ws, cellAt env i = true ∧ σ[i]? = some (some (.ref q.1))
def rdI (W : Wd) (F : Fns) (m : E) : TI := fun σ H R => ∃ Z G env, SOk W Z G H env σ ∧ (ev F m env >>= itsT).wp (fun ds => ∀ G' H' J ks sh, Ext G H G' H' → GInv W G' H' → Wk W Z G' H' J ks sh ds → Ks Z env σ (walkeds m) ks → R J H')
theorem PI.imp {tg e : Expr} {t t' : TI} (h : PI X tg e t) (i : ∀ σ H Q, t' σ H Q → t σ H Q) : PI X tg e t' := ⟨fun pins s σ H Q I q => h.run pins s σ H Q I (i σ H Q q)⟩
/-- a list or a tuple -/
def iSeq (K : PySem.W.Frag) (tl : TE) : TI := fun σ H R => tl σ H fun x H1 => ∃ a, x = .ref a ∧ ((∃ xs, SqL K H1 a xs ∧ R (Itl K a) H1) ∨ (∃ xs, SqT K H1 a xs ∧ R (Itt K a) H1))
theorem pi_seq {tg l : Expr} {tl : TE} (hl : PE X l tl) : PI X tg l (iSeq X.K tl) := by
  refine ⟨fun pins s σ H R I h => ?_⟩
  refine thn (hl.run pins s σ H _ I h) fun v s1 ⟨x, H1, I1, r1, q1⟩ => ?_
  obtain ⟨a, e, q1⟩ := q1
  subst e
  cases r1
  have hb : ∀ b, b ∈ [s1.heap.objs.size] → b = s1.heap.objs.size := fun b hb => by simpa using hb
  rcases q1 with ⟨xs, hq, q⟩ | ⟨xs, hq, q⟩
  · obtain ⟨its, rv, p, hz⟩ := I1.list hq
    refine wpAny_pyIter_list p.isList ?_
    refine ⟨s1.heap.objs.size, [s1.heap.objs.size], _, _, H1, rfl, I1.kept (t' := s1.toks) fun b o e => Heap.get?_push_of_some _ e, turn_list a _, ⟨_, Heap.get?_push_size _ rfl, rfl, rfl⟩, fun b h => ?_, q⟩
    rw [hb b h]
    exact I1.fpOk (Nat.le_refl _) (I1.hok.fresh (Nat.le_refl _))
  · obtain ⟨its, rv, p, hz⟩ := I1.tuple hq
    refine wpAny_pyIter_tuple (show s1.heap.IsTuple a its.toArray from p) ?_
    refine ⟨s1.heap.objs.size, [s1.heap.objs.size], _, _, H1, rfl, I1.kept (t' := s1.toks) fun b o e => Heap.get?_push_of_some _ e, turn_tuple a _, ⟨_, Heap.get?_push_size _ rfl, rfl, rfl⟩, fun b h => ?_, q⟩
    rw [hb b h]
    exact I1.fpOk (Nat.le_refl _) (I1.hok.fresh (Nat.le_refl _))
theorem sql_inj {K : PySem.W.Frag} {H : Hp} {a : Addr} {xs ys : List V} (h : H a = some (.lst xs)) (q : SqL K H a ys) (n : ∀ o, K.lookup a = some o → False) : xs = ys := by
  rcases q with (q | ⟨o, q⟩) | ⟨o, _, _, q, _⟩
  · rw [h] at q; cases q; rfl
  · rw [h] at q; cases q
  · exact (n o q).elim
theorem sh_one {Z : Addr → Prop} {G : Gh} {H : Hp} : ∀ {vs : List V} {ds : List D}, RelL W Z G H vs ds → Paired (ShR W Z G H) (vs.map Sum.inl) ds
  | _, _, .nil => .nil
  | _, _, .cons r t => .cons (.one r) (sh_one t)
theorem get_inl {vs : List V} {i : Nat} {c : Sh} (h : (vs.map Sum.inl)[i]? = some c) : ∃ v, vs[i]? = some v ∧ c = .inl v := by
  rw [List.getElem?_map] at h
  cases e : vs[i]? with
  | none => rw [e] at h; cases h
  | some v =>
    rw [e] at h
    exact ⟨v, rfl, (Option.some.inj h).symm⟩
theorem wk_list {Z : Addr → Prop} {G : Gh} {H : Hp} {a : Addr} {vs : List V} {ds : List D} (h : H a = some (.lst vs)) (g : G a = none) (b : Bd H) (r : RelL W Z G H vs ds) : Wk W Z G H (Itl W.K a) [(a, .lst vs)] (vs.map Sum.inl) ds where
  at_ := fun q hq => by
    rw [List.mem_singleton.mp hq]
    exact ⟨h, g⟩
  rel := sh_one r
  len := by
    rw [List.length_map]
    exact b a vs (.inl h)
  stop := fun H' hk i hi => ⟨vs, .of (hk _ List.mem_cons_self), by rw [List.length_map] at hi; exact hi⟩
  go := fun H' hk i c hc => by
    have h' : H' a = some (.lst vs) := hk _ List.mem_cons_self
    obtain ⟨v, hv, rfl⟩ := get_inl hc
    refine ⟨⟨vs, v, .of h', hv⟩, fun x H2 y => ?_⟩
    obtain ⟨e1, e2⟩ := y
    exact ⟨e1, Option.some.inj ((e2 vs (.of h')).symm.trans hv)⟩
theorem wk_tup {Z : Addr → Prop} {G : Gh} {H : Hp} {a : Addr} {vs : List V} {ds : List D} (h : H a = some (.tup vs)) (g : G a = none) (b : Bd H) (r : RelL W Z G H vs ds) : Wk W Z G H (Itt W.K a) [(a, .tup vs)] (vs.map Sum.inl) ds where
  at_ := fun q hq => by
    rw [List.mem_singleton.mp hq]
    exact ⟨h, g⟩
  rel := sh_one r
  len := by
    rw [List.length_map]
    exact b a vs (.inr h)
  stop := fun H' hk i hi => ⟨vs, .of (hk _ List.mem_cons_self), by rw [List.length_map] at hi; exact hi⟩
  go := fun H' hk i c hc => by
    have h' : H' a = some (.tup vs) := hk _ List.mem_cons_self
    obtain ⟨v, hv, rfl⟩ := get_inl hc
    refine ⟨⟨vs, v, .of h', hv⟩, fun x H2 y => ?_⟩
    obtain ⟨e1, e2⟩ := y
    exact ⟨e1, Option.some.inj ((e2 vs (.of h')).symm.trans hv)⟩
/-- a value to be walked: its place, its items -/
theorem KX.walk {ws : List Nat} {b : Bool} {Z : Addr → Prop} {G : Gh} {H : Hp} {env : Env} {σ : L2.St} {d : D} {R : V → Hp → Prop} (s : SOk W Z G H env σ)
    (n : ∀ G' H' v, Ext G H G' H' → GInv W G' H' → RelS W Z G' H' v d → (∀ xs p, d = .cell xs → v = .ref p → ∃ i ∈ ws, cellAt env i = true ∧ σ[i]? = some (some (.ref p))) → R v H') : KX ws b W Z G H env σ R d := by
  cases d with
  | cell xs =>
    intro G' H' v i e g hi he hv
    obtain ⟨v', hv', r⟩ := (s.ext e g).sl i _ he
    rw [hv] at hv'
    cases hv'
    refine n G' H' v e g r fun ys p _ ev => ⟨i, hi, ?_, by rw [hv, ev]⟩
    unfold cellAt
    rw [he]
  | _ => exact RQ.kf s.zo fun G' H' v e g r => n G' H' v e g r fun _ _ z => nomatch z
theorem rel_place {Z : Addr → Prop} {G : Gh} {H : Hp} {v : V} {d : D} {xs : List D} (gi : GInv W G H) (zo : ZOk Z G H) (r : RelS W Z G H v d) (h : d.its = some xs) : ∃ a vs, v = .ref a ∧ RelL W Z G H vs xs ∧ G a = none ∧
    ((d.asL = some xs ∧ H a = some (.lst vs)) ∨ (d = .tup xs ∧ H a = some (.tup vs))) ∧ (d.isCell = false → ¬ Z a) := by
  cases d with
  | cell ys =>
    obtain ⟨p, vs, rfl, h1, z, q⟩ := r
    cases h
    exact ⟨p, vs, rfl, q, (zo p z).2, .inl ⟨rfl, h1⟩, fun z => nomatch z⟩
  | lst ys =>
    cases h
    cases r with
    | lst h1 g n q => exact ⟨_, _, rfl, q, g, .inl ⟨rfl, h1⟩, fun _ => n⟩
  | tup ys =>
    cases h
    cases r with
    | tup h1 g q =>
      refine ⟨_, _, rfl, q, g, .inr ⟨rfl, h1⟩, fun _ z => ?_⟩
      obtain ⟨⟨zs, e⟩, _⟩ := zo _ z
      rw [h1] at e
      cases e
  | _ => cases h
theorem i_any (c : Cn W F k sc X) {m : E} {tg e : Expr} (h : PE X e (rdE W F m)) : PI X tg e (rdI W F m) := by
  have q := pi_seq (tg := tg) (PE.bd h)
  rw [c.K] at q
  refine PI.imp q fun σ H R q => ?_
  obtain ⟨Z, G, env, s, w⟩ := q
  refine ⟨Z, G, env, s, T.wp_imp (T.wp_bind.mp w) fun d hd => KX.walk s fun G' H' v e g r hcell => fun bd => ?_⟩
  unfold itsT at hd
  cases ed : d.its with
  | none => rw [ed] at hd; exact hd.elim
  | some xs =>
    rw [ed] at hd
    obtain ⟨a, vs, rfl, rl, ga, hp, hz⟩ := rel_place g (s.zo.ext e) r ed
    have ks : ∀ o : HO, Ks Z env σ (walkeds m) [(a, o)] := fun o q hq => by
      rw [List.mem_singleton.mp hq]
      cases hc : d.isCell with
      | false => exact .inl (hz hc)
      | true =>
        cases d with
        | cell ys => exact .inr (hcell ys a rfl rfl)
        | _ => cases hc
    refine ⟨a, rfl, ?_⟩
    rcases hp with ⟨_, h1⟩ | ⟨_, h1⟩
    · exact .inl ⟨vs, .of h1, hd G' H' _ _ _ e g (wk_list h1 ga bd rl) (ks _)⟩
    · exact .inr ⟨vs, .of h1, hd G' H' _ _ _ e g (wk_tup h1 ga bd rl) (ks _)⟩
/-! ### range -/
theorem wk_rng {Z : Addr → Prop} {G : Gh} {H : Hp} (a : Int) (n : Nat) (hn : n ≤ maxL) : Wk W Z G H (Itr a n) [] ((List.range n).map fun k => Sum.inl (V.int (a + (k : Nat)))) ((List.range n).map fun k => D.int (a + (k : Nat))) where
  at_ := fun q hq => by cases hq
  rel := by
    generalize List.range n = l
    induction l with
    | nil => exact .nil
    | cons x l ih => exact .cons (.one (.int _)) ih
  len := by
    rw [List.length_map, List.length_range]
    exact Nat.le_trans hn line_max
  stop := fun H' _ i hi => by
    rw [List.length_map, List.length_range] at hi
    exact hi
  go := fun H' _ i c hc => by
    rw [List.getElem?_map] at hc
    have hi : i < n := by
      by_cases h : i < n
      · exact h
      · rw [List.getElem?_eq_none (by rw [List.length_range]; omega)] at hc
        cases hc
    rw [List.getElem?_range hi] at hc
    cases hc
    exact ⟨hi, fun x H2 y => y⟩
theorem rng_ok {a b : Int} {q : List D → Prop} (h : (rngD a b).wp q) : (-(2 ^ 62) ≤ a ∧ a < 2 ^ 62 ∧ -(2 ^ 62) ≤ b ∧ b < 2 ^ 62) ∧ (b - a).toNat ≤ maxL ∧ q ((List.range (b - a).toNat).map fun k => .int (a + (k : Nat))) := by
  unfold rngD at h
  obtain ⟨hs, h⟩ := wp_if h
  unfold small at hs
  simp only [Bool.and_eq_true, decide_eq_true_eq] at hs
  exact ⟨⟨hs.1.1.1, hs.1.1.2, hs.1.2.1, hs.1.2.2⟩, hs.2, h⟩
theorem no_ks {Z : Addr → Prop} {env : Env} {σ : L2.St} {ws : List Nat} : Ks Z env σ ws [] := fun q hq => by cases hq
theorem i_rng1 (c : Cn W F k sc X) {a : E} {tg ea : Expr} {p pos : Pos} (hg : gl sc ("range" : Str) = true) (hs : notStar ea = true) (ha : PE X ea (rdE W F a)) : PI X tg (.Call (.Name ("range" : Str) p) [ea] [] pos) (rdI W F (.rng1 a)) := by
  refine PI.imp (pi_range1 (gl_ok c hg) (free_of c (by decide +kernel)) (pa_cons ha pa_nil (star_ok hs _)) (star_ok hs _)) fun σ H R q => ?_
  obtain ⟨Z, G, env, s, w⟩ := q
  rw [show ev F (.rng1 a) env = (ev F a env >>= fun x => rng1D x) from rfl, T.bind_assoc] at w
  refine s.first w fun d G1 H1 v e1 g1 s1 r1 w1 => ?_
  cases d with
  | int n =>
    rw [r1.int]
    rw [show rng1D (.int n) = (rngD 0 n >>= fun r => T.ret (D.lst r)) from rfl, T.bind_assoc] at w1
    obtain ⟨hb, hl, w4⟩ := rng_ok (T.wp_bind.mp w1)
    have e0 : (n - 0).toNat = n.toNat := by rw [Int.sub_zero]
    refine ⟨n, rfl, hb.2.2.1, hb.2.2.2, ?_⟩
    rw [← e0]
    exact (show ∀ G' H' J ks sh, Ext G H G' H' → GInv W G' H' → Wk W Z G' H' J ks sh _ → Ks Z env σ [] ks → R J H' from w4) G1 H1 _ _ _ e1 g1 (wk_rng 0 _ hl) no_ks
  | _ => exact w1.elim
theorem i_rng2 (c : Cn W F k sc X) {a b : E} {tg ea eb : Expr} {p pos : Pos} (hg : gl sc ("range" : Str) = true) (hs : notStar ea = true) (hs2 : notStar eb = true) (ha : PE X ea (rdE W F a)) (hb : PE X eb (rdE W F b)) : PI X tg (.Call (.Name ("range" : Str) p) [ea, eb] [] pos) (rdI W F (.rng2 a b)) := by
  refine PI.imp (pi_range2 (gl_ok c hg) (free_of c (by decide +kernel)) (pa_cons ha (pa_cons hb pa_nil (star_ok hs2 _)) (star_ok hs _)) (by rw [star_ok hs, star_ok hs2]; rfl) (by rw [star_ok hs2]; rfl)) fun σ H R q => ?_
  obtain ⟨Z, G, env, s, w⟩ := q
  rw [show ev F (.rng2 a b) env = (ev F a env >>= fun x => ev F b env >>= fun y => rng2D x y) from rfl, T.bind_assoc] at w
  refine s.first w fun d G1 H1 v e1 g1 s1 r1 w1 => ?_
  rw [T.bind_assoc] at w1
  refine s1.first w1 fun d2 G2 H2 v2 e2 g2 s2 r2 w2 => ?_
  cases d with
  | int m =>
    cases d2 with
    | int n =>
      rw [r1.int, r2.int]
      rw [show rng2D (.int m) (.int n) = (rngD m n >>= fun r => T.ret (D.lst r)) from rfl, T.bind_assoc] at w2
      obtain ⟨hb, hl, w4⟩ := rng_ok (T.wp_bind.mp w2)
      exact ⟨m, n, rfl, hb, (show ∀ G' H' J ks sh, Ext G H G' H' → GInv W G' H' → Wk W Z G' H' J ks sh _ → Ks Z env σ [] ks → R J H' from w4) G2 H2 _ _ _ (e1.trans e2) g2 (wk_rng m _ hl) no_ks⟩
    | _ => exact w2.elim
  | _ => exact w2.elim
/-! ### zip, enumerate -/
theorem sh_zip {Z : Addr → Prop} {G : Gh} {H : Hp} : ∀ {vs ws : List V} {ds es : List D}, RelL W Z G H vs ds → RelL W Z G H ws es → Paired (ShR W Z G H) ((vs.zip ws).map fun p => Sum.inr [p.1, p.2]) ((ds.zip es).map fun p => D.tup [p.1, p.2])
  | _, _, _, _, .nil, _ => by simp only [List.zip_nil_left, List.map_nil]; exact .nil
  | _, _, _, _, .cons _ _, .nil => by simp only [List.zip_nil_right, List.map_nil]; exact .nil
  | _, _, _, _, .cons r t, .cons r' t' => .cons (.tup (.cons r (.cons r' .nil))) (sh_zip t t')
theorem zip_get {vs ws : List V} {i : Nat} {c : Sh} (h : ((vs.zip ws).map fun p => (Sum.inr [p.1, p.2] : Sh))[i]? = some c) : ∃ x y, vs[i]? = some x ∧ ws[i]? = some y ∧ c = .inr [x, y] := by
  rw [List.getElem?_map] at h
  cases e : (vs.zip ws)[i]? with
  | none => rw [e] at h; cases h
  | some p =>
    rw [e] at h
    rw [List.getElem?_zip_eq_some] at e
    exact ⟨p.1, p.2, e.1, e.2, (Option.some.inj h).symm⟩
theorem wk_zipL {Z : Addr → Prop} {G : Gh} {H : Hp} {a b : Addr} {vs ws : List V} {ds es : List D} (h : H a = some (.lst vs)) (h2 : H b = some (.lst ws)) (g : G a = none) (g2 : G b = none) (bd : Bd H) (r : RelL W Z G H vs ds) (r2 : RelL W Z G H ws es) :
    Wk W Z G H (Itz W.K a b) [(a, .lst vs), (b, .lst ws)] ((vs.zip ws).map fun p => Sum.inr [p.1, p.2]) ((ds.zip es).map fun p => D.tup [p.1, p.2]) where
  at_ := fun q hq => by
    rcases List.mem_cons.mp hq with e | hq
    · rw [e]; exact ⟨h, g⟩
    · rw [List.mem_singleton.mp hq]; exact ⟨h2, g2⟩
  rel := sh_zip r r2
  len := by
    rw [List.length_map, List.length_zip]
    exact Nat.le_trans (Nat.min_le_left _ _) (bd a vs (.inl h))
  stop := fun H' hk i hi => by
    rw [List.length_map, List.length_zip] at hi
    exact ⟨vs, ws, .of (hk _ List.mem_cons_self), .of (hk _ (List.mem_cons_of_mem _ List.mem_cons_self)), by omega⟩
  go := fun H' hk i c hc => by
    have h1 : H' a = some (.lst vs) := hk _ List.mem_cons_self
    have h2 : H' b = some (.lst ws) := hk _ (List.mem_cons_of_mem _ List.mem_cons_self)
    obtain ⟨x, y, e1, e2, rfl⟩ := zip_get hc
    refine ⟨⟨vs, ws, x, y, .of h1, .of h2, e1, e2⟩, fun v H2 hy => ?_⟩
    obtain ⟨T, x', y', ev, hT, eH, f1, f2⟩ := hy
    have a1 := Option.some.inj ((f1 vs (.of h1)).symm.trans e1)
    have a2 := Option.some.inj ((f2 ws (.of h2)).symm.trans e2)
    rw [a1, a2] at eH
    exact ⟨T, ev, hT, eH⟩
theorem wk_zipT {Z : Addr → Prop} {G : Gh} {H : Hp} {a b : Addr} {vs ws : List V} {ds es : List D} (h : H a = some (.tup vs)) (h2 : H b = some (.tup ws)) (g : G a = none) (g2 : G b = none) (bd : Bd H) (r : RelL W Z G H vs ds) (r2 : RelL W Z G H ws es) :
    Wk W Z G H (RZ.ItzT W.K a b) [(a, .tup vs), (b, .tup ws)] ((vs.zip ws).map fun p => Sum.inr [p.1, p.2]) ((ds.zip es).map fun p => D.tup [p.1, p.2]) where
  at_ := fun q hq => by
    rcases List.mem_cons.mp hq with e | hq
    · rw [e]; exact ⟨h, g⟩
    · rw [List.mem_singleton.mp hq]; exact ⟨h2, g2⟩
  rel := sh_zip r r2
  len := by
    rw [List.length_map, List.length_zip]
    exact Nat.le_trans (Nat.min_le_left _ _) (bd a vs (.inr h))
  stop := fun H' hk i hi => by
    rw [List.length_map, List.length_zip] at hi
    exact ⟨vs, ws, .of (hk _ List.mem_cons_self), .of (hk _ (List.mem_cons_of_mem _ List.mem_cons_self)), by omega⟩
  go := fun H' hk i c hc => by
    have h1 : H' a = some (.tup vs) := hk _ List.mem_cons_self
    have h2 : H' b = some (.tup ws) := hk _ (List.mem_cons_of_mem _ List.mem_cons_self)
    obtain ⟨x, y, e1, e2, rfl⟩ := zip_get hc
    refine ⟨⟨vs, ws, x, y, .of h1, .of h2, e1, e2⟩, fun v H2 hy => ?_⟩
    obtain ⟨T, x', y', ev, hT, eH, f1, f2⟩ := hy
    have a1 := Option.some.inj ((f1 vs (.of h1)).symm.trans e1)
    have a2 := Option.some.inj ((f2 ws (.of h2)).symm.trans e2)
    rw [a1, a2] at eH
    exact ⟨T, ev, hT, eH⟩
theorem sh_enum {Z : Addr → Prop} {G : Gh} {H : Hp} : ∀ {vs : List V} {ds : List D} (o : Nat), RelL W Z G H vs ds → Paired (ShR W Z G H) ((List.range' o vs.length).zipWith (fun k x => Sum.inr [V.int (k : Nat), x]) vs) ((List.range' o ds.length).zipWith (fun k x => D.tup [.int (k : Nat), x]) ds)
  | _, _, o, .nil => .nil
  | _, _, o, .cons r t => by
    rw [List.length_cons, List.length_cons, List.range'_succ, List.range'_succ]
    exact .cons (.tup (.cons (.int _) (.cons r .nil))) (sh_enum (o + 1) t)
theorem enum_get {vs : List V} {i : Nat} {c : Sh} (h : ((List.range vs.length).zipWith (fun k x => (Sum.inr [V.int (k : Nat), x] : Sh)) vs)[i]? = some c) : ∃ x, vs[i]? = some x ∧ c = .inr [.int (i : Nat), x] := by
  rw [List.getElem?_zipWith_eq_some] at h
  obtain ⟨n, x, h1, h2, h3⟩ := h
  have hi : i < vs.length := by
    by_cases hl : i < vs.length
    · exact hl
    · rw [List.getElem?_eq_none (by omega)] at h2
      cases h2
  rw [List.getElem?_range hi] at h1
  cases h1
  exact ⟨x, h2, h3.symm⟩
theorem wk_enum {Z : Addr → Prop} {G : Gh} {H : Hp} {a : Addr} {vs : List V} {ds : List D} (h : H a = some (.lst vs)) (g : G a = none) (bd : Bd H) (r : RelL W Z G H vs ds) :
    Wk W Z G H (Ite W.K a) [(a, .lst vs)] ((List.range vs.length).zipWith (fun k x => Sum.inr [V.int (k : Nat), x]) vs) ((List.range ds.length).zipWith (fun k x => D.tup [.int (k : Nat), x]) ds) where
  at_ := fun q hq => by
    rw [List.mem_singleton.mp hq]
    exact ⟨h, g⟩
  rel := by
    rw [List.range_eq_range', List.range_eq_range']
    exact sh_enum 0 r
  len := by
    rw [List.length_zipWith, List.length_range, Nat.min_self]
    exact bd a vs (.inl h)
  stop := fun H' hk i hi => by
    rw [List.length_zipWith, List.length_range, Nat.min_self] at hi
    exact ⟨vs, .of (hk _ List.mem_cons_self), hi⟩
  go := fun H' hk i c hc => by
    have h1 : H' a = some (.lst vs) := hk _ List.mem_cons_self
    obtain ⟨x, e1, rfl⟩ := enum_get hc
    refine ⟨⟨vs, x, .of h1, e1⟩, fun v H2 hy => ?_⟩
    obtain ⟨T, x', ev, hT, eH, f1⟩ := hy
    have a1 := Option.some.inj ((f1 vs (.of h1)).symm.trans e1)
    rw [a1] at eH
    exact ⟨T, ev, hT, eH⟩
theorem wk_enumT {Z : Addr → Prop} {G : Gh} {H : Hp} {a : Addr} {vs : List V} {ds : List D} (h : H a = some (.tup vs)) (g : G a = none) (bd : Bd H) (r : RelL W Z G H vs ds) :
    Wk W Z G H (IteT W.K a) [(a, .tup vs)] ((List.range vs.length).zipWith (fun k x => Sum.inr [V.int (k : Nat), x]) vs) ((List.range ds.length).zipWith (fun k x => D.tup [.int (k : Nat), x]) ds) where
  at_ := fun q hq => by
    rw [List.mem_singleton.mp hq]
    exact ⟨h, g⟩
  rel := by
    rw [List.range_eq_range', List.range_eq_range']
    exact sh_enum 0 r
  len := by
    rw [List.length_zipWith, List.length_range, Nat.min_self]
    exact bd a vs (.inr h)
  stop := fun H' hk i hi => by
    rw [List.length_zipWith, List.length_range, Nat.min_self] at hi
    exact ⟨vs, .of (hk _ List.mem_cons_self), hi⟩
  go := fun H' hk i c hc => by
    have h1 : H' a = some (.tup vs) := hk _ List.mem_cons_self
    obtain ⟨x, e1, rfl⟩ := enum_get hc
    refine ⟨⟨vs, x, .of h1, e1⟩, fun v H2 hy => ?_⟩
    obtain ⟨T, x', ev, hT, eH, f1⟩ := hy
    have a1 := Option.some.inj ((f1 vs (.of h1)).symm.trans e1)
    rw [a1] at eH
    exact ⟨T, ev, hT, eH⟩
theorem SOk.walkE {β : Type} {a : E} {f : D → T β} {q : β → Prop} {Z : Addr → Prop} {G : Gh} {env : Env} {σ : L2.St} {H : Hp} {R : V → Hp → Prop} (s : SOk W Z G H env σ) (h : (ev F a env >>= f).wp q)
    (n : ∀ d G' H' v, Ext G H G' H' → GInv W G' H' → SOk W Z G' H' env σ → RelS W Z G' H' v d → (∀ xs p, d = .cell xs → v = .ref p → ∃ i ∈ walkeds a, cellAt env i = true ∧ σ[i]? = some (some (.ref p))) → (f d).wp q → R v H') : rdE W F a σ H R :=
  ⟨Z, G, env, s, T.wp_imp (T.wp_bind.mp h) fun d hd => KX.walk s fun G' H' v e g r hc => n d G' H' v e g (s.ext e g) r hc hd⟩
theorem ks_of {Z : Addr → Prop} {env : Env} {σ : L2.St} {ws : List Nat} {d : D} {a : Addr} (hz : d.isCell = false → ¬ Z a) (hc : ∀ xs p, d = .cell xs → V.ref a = .ref p → ∃ i ∈ ws, cellAt env i = true ∧ σ[i]? = some (some (.ref p))) :
    ¬ Z a ∨ ∃ i ∈ ws, cellAt env i = true ∧ σ[i]? = some (some (.ref a)) := by
  cases e : d.isCell with
  | false => exact .inl (hz e)
  | true =>
    cases d with
    | cell ys => exact .inr (hc ys a rfl rfl)
    | _ => cases e
theorem i_enum (c : Cn W F k sc X) {a : E} {t ea : Expr} {p pos : Pos} (ht : isTupE t = true) (hg : gl sc ("enumerate" : Str) = true) (hs : notStar ea = true) (ha : PE X ea (rdE W F a)) : PI X t (.Call (.Name ("enumerate" : Str) p) [ea] [] pos) (rdI W F (.enum a)) := by
  cases t <;> first | cases ht | skip
  rename_i telts tkk tpos
  have q := pi_enumA (X := X) (elts := telts) (kk := tkk) (tpos := tpos) (p := p) (pos := pos) (gl_ok c hg) (free_of c (by decide +kernel)) (pa_cons (PE.bd ha) pa_nil (star_ok hs _)) (star_ok hs _)
  rw [c.K] at q
  refine PI.imp q fun σ H R q => ?_
  obtain ⟨Z, G, env, s, w⟩ := q
  rw [show ev F (.enum a) env = (ev F a env >>= fun x => enumD x >>= fun r => T.ret (D.lst r)) from rfl, T.bind_assoc] at w
  refine s.walkE w fun d G1 H1 v e1 g1 s1 r1 hc w1 => fun bd => ?_
  rw [T.bind_assoc] at w1
  have w2 := T.wp_bind.mp w1
  unfold enumD at w2
  cases ei : d.its with
  | none => rw [ei] at w2; exact w2.elim
  | some xs =>
    rw [ei] at w2
    obtain ⟨b, vs, rfl, rl, gb, hp, hz⟩ := rel_place g1 s1.zo r1 ei
    rcases hp with ⟨_, h1⟩ | ⟨_, h1⟩
    · refine ⟨b, vs, rfl, .inl ⟨.of h1, ?_⟩⟩
      refine (show ∀ G' H' J ks sh, Ext G H G' H' → GInv W G' H' → Wk W Z G' H' J ks sh _ → Ks Z env σ (walkeds a) ks → R J H' from w2) G1 H1 _ _ _ e1 g1 (wk_enum h1 gb bd rl) fun q hq => ?_
      rw [List.mem_singleton.mp hq]
      exact ks_of hz hc
    · refine ⟨b, vs, rfl, .inr ⟨.of h1, ?_⟩⟩
      refine (show ∀ G' H' J ks sh, Ext G H G' H' → GInv W G' H' → Wk W Z G' H' J ks sh _ → Ks Z env σ (walkeds a) ks → R J H' from w2) G1 H1 _ _ _ e1 g1 (wk_enumT h1 gb bd rl) fun q hq => ?_
      rw [List.mem_singleton.mp hq]
      exact ks_of hz hc
theorem i_zip (c : Cn W F k sc X) {a b : E} {t ea eb : Expr} {p pos : Pos} (ht : isTupE t = true) (hg : gl sc ("zip" : Str) = true) (hs : notStar ea = true) (hs2 : notStar eb = true) (ha : PE X ea (rdE W F a)) (hb : PE X eb (rdE W F b)) :
    PI X t (.Call (.Name ("zip" : Str) p) [ea, eb] [] pos) (rdI W F (.zip a b)) := by
  cases t <;> first | cases ht | skip
  rename_i telts tkk tpos
  have q := RZ.pi_zipA (X := X) (elts := telts) (kk := tkk) (tpos := tpos) (p := p) (pos := pos) (gl_ok c hg) (free_of c (by decide +kernel)) (pa_cons (PE.bd ha) (pa_cons (PE.bd hb) pa_nil (star_ok hs2 _)) (star_ok hs _)) (star_ok hs _) (by rw [star_ok hs2]; rfl)
  rw [c.K] at q
  refine PI.imp q fun σ H R q => ?_
  obtain ⟨Z, G, env, s, w⟩ := q
  rw [show ev F (.zip a b) env = (ev F a env >>= fun x => ev F b env >>= fun y => zipD x y >>= fun r => T.ret (D.lst r)) from rfl, T.bind_assoc] at w
  refine s.walkE w fun d1 G1 H1 v1 e1 g1 s1 r1 hc1 w1 => fun bd1 => ?_
  rw [T.bind_assoc] at w1
  refine s1.walkE w1 fun d2 G2 H2 v2 e2 g2 s2 r2 hc2 w2 => fun bd => ?_
  rw [T.bind_assoc] at w2
  have w3 := T.wp_bind.mp w2
  have r1' := r1.ext e2 s1.zo
  have fin : ∀ {xs ys : List D}, (T.ret ((xs.zip ys).map fun p => D.tup [p.1, p.2])).wp (fun r => (T.ret (D.lst r) >>= itsT).wp fun ds => ∀ G' H' J ks sh, Ext G H G' H' → GInv W G' H' → Wk W Z G' H' J ks sh ds → Ks Z env σ (walkeds (.zip a b)) ks → R J H') →
      ∀ G' H' J ks sh, Ext G H G' H' → GInv W G' H' → Wk W Z G' H' J ks sh ((xs.zip ys).map fun p => D.tup [p.1, p.2]) → Ks Z env σ (walkeds a ++ walkeds b) ks → R J H' := fun {xs ys} h => h
  have ksz : ∀ {a' b' : Addr} {o1 o2 : HO}, (d1.isCell = false → ¬ Z a') → (d2.isCell = false → ¬ Z b') → v1 = .ref a' → v2 = .ref b' → Ks Z env σ (walkeds a ++ walkeds b) [(a', o1), (b', o2)] := fun {a' b' o1 o2} z1 z2 ev1 ev2 q hq => by
    subst ev1 ev2
    rcases List.mem_cons.mp hq with e | hq
    · rw [e]
      exact (ks_of z1 hc1).imp id fun ⟨i, hi, h⟩ => ⟨i, List.mem_append_left _ hi, h⟩
    · rw [List.mem_singleton.mp hq]
      exact (ks_of z2 hc2).imp id fun ⟨i, hi, h⟩ => ⟨i, List.mem_append_right _ hi, h⟩
  have lists : ∀ {xs ys : List D}, d1.asL = some xs → d2.asL = some ys → (T.ret ((xs.zip ys).map fun p => D.tup [p.1, p.2])).wp (fun r => (T.ret (D.lst r) >>= itsT).wp fun ds => ∀ G' H' J ks sh, Ext G H G' H' → GInv W G' H' → Wk W Z G' H' J ks sh ds → Ks Z env σ (walkeds (.zip a b)) ks → R J H') →
      ∃ a' b' xs ys, [v1, v2] = [.ref a', .ref b'] ∧ ((SqL W.K H2 a' xs ∧ SqL W.K H2 b' ys ∧ R (Itz W.K a' b') H2) ∨ (SqT W.K H2 a' xs ∧ SqT W.K H2 b' ys ∧ R (RZ.ItzT W.K a' b') H2)) := fun {xs ys} ed1 ed2 h => by
    have ei1 : d1.its = some xs := by cases d1 <;> first | exact ed1 | cases ed1
    have ei2 : d2.its = some ys := by cases d2 <;> first | exact ed2 | cases ed2
    obtain ⟨a', vs, ev1, rl1, ga, hp1, hz1⟩ := rel_place g2 s2.zo r1' ei1
    obtain ⟨b', ws, ev2, rl2, gb, hp2, hz2⟩ := rel_place g2 s2.zo r2 ei2
    rcases hp1 with ⟨_, h1⟩ | ⟨e, _⟩
    · rcases hp2 with ⟨_, h2⟩ | ⟨e, _⟩
      · exact ⟨a', b', vs, ws, by rw [ev1, ev2], .inl ⟨.of h1, .of h2, fin h G2 H2 _ _ _ (e1.trans e2) g2 (wk_zipL h1 h2 ga gb bd rl1 rl2) (ksz hz1 hz2 ev1 ev2)⟩⟩
      · rw [e] at ed2; cases ed2
    · rw [e] at ed1; cases ed1
  unfold zipD at w3
  split at w3
  · rename_i xs ys
    obtain ⟨a', vs, ev1, rl1, ga, hp1, hz1⟩ := rel_place g2 s2.zo r1' (rfl : D.its (.tup xs) = some xs)
    obtain ⟨b', ws, ev2, rl2, gb, hp2, hz2⟩ := rel_place g2 s2.zo r2 (rfl : D.its (.tup ys) = some ys)
    rcases hp1 with ⟨z, _⟩ | ⟨_, h1⟩
    · cases z
    · rcases hp2 with ⟨z, _⟩ | ⟨_, h2⟩
      · cases z
      · exact ⟨a', b', vs, ws, by rw [ev1, ev2], .inr ⟨.of h1, .of h2, fin w3 G2 H2 _ _ _ (e1.trans e2) g2 (wk_zipT h1 h2 ga gb bd rl1 rl2) (ksz hz1 hz2 ev1 ev2)⟩⟩
  · cases ed1 : d1.asL with
    | none => rw [ed1] at w3; exact w3.elim
    | some xs =>
      cases ed2 : d2.asL with
      | none => rw [ed1, ed2] at w3; exact w3.elim
      | some ys =>
        rw [ed1, ed2] at w3
        exact lists ed1 ed2 w3
end
end Fm

/-! FmM: comprehensions. -/
namespace Fm
open PySem PySem.Spec PyProof.Rows L2
section
variable {W : Wd} {F : Fns} {k : Kn} {sc : Scope} {X : Cx}
variable {Z : Addr → Prop} {G G' : Gh} {H H' : Hp} {env : Env} {σ : L2.St}
theorem Evo.put {p : Addr} {xs : List V} (z : Z p) : Evo Z G H Z G (upd H p (.lst xs)) :=
  ⟨fun _ _ h => h, fun q o h g n => ⟨by rw [upd_ne fun e => n (by rw [e]; exact z)]; exact h, g, n⟩⟩
theorem GInv.put {p : Addr} {xs : List V} (g : GInv W G H) (zo : ZOk Z G H) (z : Z p) : GInv W G (upd H p (.lst xs)) := fun q k e => by
  have ne : q ≠ p := fun h => by
    subst h
    rw [(zo q z).2] at e
    cases e
  have hq : upd H p (.lst xs) q = H q := upd_ne ne
  have h := g q k e
  cases k with
  | looked n ts ns =>
    obtain ⟨kvs, h, l, r⟩ := h
    refine ⟨kvs, hq.trans h, l, fun kv hk => ?_⟩
    obtain ⟨s, d, e1, e2, f, q⟩ := r kv hk
    exact ⟨s, d, e1, e2, f, ((q.flat f (Z' := Z)).evo (fun p z => (zo p z).1) (Evo.put z)).flat f⟩
  | hand =>
    obtain ⟨c, cells, i, r, m, t, h, rest⟩ := h
    exact ⟨c, cells, i, r, m, t, hq.trans h, rest⟩
  | tape cells => exact hq.trans h
theorem ShR.away {p : Addr} (hp : H p = none) {c : Sh} {d : D} (r : ShR W Z G H c d) : ShR W (fun q => Z q ∨ q = p) G H c d := by
  cases r with
  | one r => exact .one (r.away hp)
  | tup r => exact .tup (r.away hp)
theorem ShR.ext (e : Ext G H G' H') {c : Sh} {d : D} (r : ShR W Z G H c d) : ShR W Z G' H' c d := by
  cases r with
  | one r => exact .one (r.ext e)
  | tup r => exact .tup (r.ext e)
theorem yld_ok {c : Sh} {d : D} {x : V} {H2 : Hp} (g : GInv W G H) (r : ShR W Z G H c d) (y : Yld H x H2 c) : Ext G H G H2 ∧ GInv W G H2 ∧ Rel W Z G H2 x d := by
  cases r with
  | one r =>
    obtain ⟨e1, e2⟩ := y
    rw [e1, e2]
    exact ⟨Ext.refl _ _, g, r⟩
  | tup r =>
    obtain ⟨T, e1, hT, e2⟩ := y
    rw [e1, e2]
    exact ⟨Ext.new hT, g.new hT, .tup upd_same (g.free hT) (r.ext (Ext.new hT))⟩
theorem SOk.grow {p : Addr} {vs : List V} (s : SOk W Z G H env σ) (hp : H p = none) (e : Ext G H G' H') (g' : GInv W G' H') (h' : H' p = some (.lst vs)) (gp : G' p = none) : SOk W (fun q => Z q ∨ q = p) G' H' env σ := by
  refine ⟨s.len, g', fun q z => ?_, fun i d h => ?_, s.sep⟩
  · rcases z with z | z
    · exact (s.zo.ext e) q z
    · subst z
      exact ⟨⟨_, h'⟩, gp⟩
  · obtain ⟨v, h1, r⟩ := s.sl i d h
    refine ⟨v, h1, ?_⟩
    cases d with
    | cell xs =>
      obtain ⟨q, vs, rfl, h2, z, rl⟩ := r
      exact ⟨q, vs, rfl, (e.ob _ _ h2 (s.zo q z).2).1, .inl z, (rl.away hp).ext e⟩
    | _ => exact (Rel.away hp (show Rel W Z G H v _ from r)).ext e
theorem ext_put {p : Addr} {o : HO} (e : Ext G H G' H') (hp : H p = none) : Ext G H G' (upd H' p o) :=
  ⟨e.gh, fun q o' h g => ⟨by rw [upd_ne (ne_of_none h hp)]; exact (e.ob q o' h g).1, (e.ob q o' h g).2⟩⟩
theorem Paired.get {α β : Type} {R : α → β → Prop} : ∀ {xs : List α} {ys : List β} {i : Nat}, Paired R xs ys → i < xs.length → ∃ x y, xs[i]? = some x ∧ ys[i]? = some y ∧ ys.drop i = y :: ys.drop (i + 1) ∧ R x y
  | _, _, _, .nil, h => absurd h (Nat.not_lt_zero _)
  | _, _, 0, .cons r t, _ => ⟨_, _, rfl, rfl, rfl, r⟩
  | _, _, i + 1, .cons r t, h => by
    obtain ⟨x, y, e1, e2, e3, q⟩ := Paired.get (i := i) t (Nat.lt_of_succ_lt_succ h)
    exact ⟨x, y, e1, e2, e3, q⟩
theorem Paired.len {α β : Type} {R : α → β → Prop} : ∀ {xs : List α} {ys : List β}, Paired R xs ys → xs.length = ys.length
  | _, _, .nil => rfl
  | _, _, .cons r t => by rw [List.length_cons, List.length_cons, Paired.len t]
theorem set_ok {e : Expr} {env : PySem.Env} (h : notSet e = true) (x : Value) : foldedSetIterable e env x = pure x := by
  cases e <;> first | rfl | cases h
/-- a comprehension's step -/
def lcRest (F : Fns) (test elt : E) (env1 : Env) : T (Option D) := do
  let k ← (if isNil test then .ret true else do let b ← ev F test env1; asB b)
  if k then (do let y ← ev F elt env1; let y ← chkC y; .ret (some y)) else .ret none
def lcStep (F : Fns) (tg : Tg) (own : List Nat) (test elt : E) (env : Env) : D → T (Option D) := fun x => bindTg tg x (wipeE env own) >>= lcRest F test elt
theorem ev_lc {tg : Tg} {own : List Nat} {it test elt : E} : ev F (.lc tg own it test elt) env = ((ev F it env >>= itsT) >>= fun xs => lcT (lcStep F tg own test elt env) xs >>= fun ys => T.ret (D.lst ys)) := by
  rw [T.bind_assoc]
  rfl
def ttOf (W : Wd) (F : Fns) (test : E) : TT := if isNil test then tYes else rdT W F test
theorem lc_in {tg : Tg} {own : List Nat} {it test elt : E} {Q : VK} (hsub : tgSub own tg = true) (h : rdE W F (.lc tg own it test elt) σ H Q) : tLc (rdI W F it) (gTg W.K tg) (ttOf W F test) (rdE W F elt) own σ H Q := by
  obtain ⟨Z, G, env, s, w⟩ := h
  rw [ev_lc] at w
  refine ⟨Z, G, env, s, T.wp_imp (T.wp_bind.mp w) fun ds hd G1 H1 J ks sh e1 g1 wk hks => fun Dl hD => ?_⟩
  have hd' : (lcT (lcStep F tg own test elt env) ds).wp fun ys => RN W Z G H Q ys := T.wp_bind.mp hd
  have hlen := Paired.len wk.rel
  have s1 := s.ext e1 g1
  generalize hst : lcStep F tg own test elt env = step at hd'
  refine ⟨fun i m H' => m = sh.length - i ∧ i ≤ sh.length ∧ ∃ G' vs acc, Ext G1 H1 G' H' ∧ GInv W G' H' ∧ H' Dl = some (.lst vs) ∧ G' Dl = none ∧ RelL W (fun q => Z q ∨ q = Dl) G' H' vs acc ∧ acc.length ≤ i ∧ (lcT step (ds.drop i)).wp (fun rest => RN W Z G H Q (acc ++ rest)),
    ⟨sh.length, by rw [Nat.sub_zero], Nat.zero_le _, G1, [], [], Ext.new hD, g1.new hD, upd_same, g1.free hD, .nil, Nat.le_refl _, hd'⟩, ?_⟩
  rintro i m H' ⟨rfl, hi, G', vs, acc, e2, g2, hL, gL, rl, hacc, hw⟩
  have hk : ∀ q ∈ ks, H' q.1 = some q.2 := fun q hq => (e2.ob _ _ (wk.at_ q hq).1 (wk.at_ q hq).2).1
  have hD0 : H Dl = none := e1.none hD g1
  by_cases hlt : i < sh.length
  · obtain ⟨c, d, hc, hdd, hdrop, rcd⟩ := Paired.get wk.rel hlt
    obtain ⟨go, yld⟩ := wk.go H' hk i c hc
    refine .inr ⟨go, fun H'' => i + 1 ≤ sh.length ∧ ∃ G' vs acc, Ext G1 H1 G' H'' ∧ GInv W G' H'' ∧ H'' Dl = some (.lst vs) ∧ G' Dl = none ∧ RelL W (fun q => Z q ∨ q = Dl) G' H'' vs acc ∧ acc.length ≤ i + 1 ∧ (lcT step (ds.drop (i + 1))).wp (fun rest => RN W Z G H Q (acc ++ rest)),
      fun H'' hn => ⟨sh.length - (i + 1), by omega, rfl, hn⟩, fun x H2 hy => ?_⟩
    obtain ⟨e3, g3, rx⟩ := yld_ok g2 ((rcd.away hD).ext e2) (yld x H2 hy)
    have s3 : SOk W (fun q => Z q ∨ q = Dl) G' H2 (wipeE env own) (wipe σ own) := (s1.grow hD (e2.trans e3) g3 (e3.ob _ _ hL gL).1 (e3.ob _ _ hL gL).2).wiped own
    rw [hdrop] at hw
    have hw' : (step d >>= fun o => lcT step (ds.drop (i + 1)) >>= fun rest => T.ret (match o with | some y => y :: rest | none => rest)).wp (fun rest => RN W Z G H Q (acc ++ rest)) := hw
    have hw2 := T.wp_bind.mp hw'
    rw [show step d = (bindTg tg d (wipeE env own) >>= lcRest F test elt) from by rw [← hst]; rfl] at hw2
    refine tg_in s3 rx (T.wp_bind.mp hw2) fun env1 σ1 s4 hwp _ hq => ⟨by rw [hwp own hsub, wipe_wipe], ?_⟩
    -- the turn's end
    have fin : ∀ {G4 : Gh} {H4 : Hp}, Ext G' H2 G4 H4 → GInv W G4 H4 → ((lcT step (ds.drop (i + 1)) >>= fun rest => T.ret (match (none : Option D) with | some y => y :: rest | none => rest)).wp fun rest => RN W Z G H Q (acc ++ rest)) →
        i + 1 ≤ sh.length ∧ ∃ G' vs acc, Ext G1 H1 G' H4 ∧ GInv W G' H4 ∧ H4 Dl = some (.lst vs) ∧ G' Dl = none ∧ RelL W (fun q => Z q ∨ q = Dl) G' H4 vs acc ∧ acc.length ≤ i + 1 ∧ (lcT step (ds.drop (i + 1))).wp (fun rest => RN W Z G H Q (acc ++ rest)) := fun {G4 H4} e4 g4 hp => by
      have e5 := e3.trans e4
      refine ⟨hlt, G4, vs, acc, e2.trans e5, g4, (e5.ob _ _ hL gL).1, (e5.ob _ _ hL gL).2, rl.ext e5, Nat.le_succ_of_le hacc, ?_⟩
      exact T.wp_bind.mp hp
    have body : ∀ {G4 : Gh} {H4 : Hp}, Ext G' H2 G4 H4 → GInv W G4 H4 → (ev F elt env1 >>= fun y => chkC y >>= fun y => T.ret (some y)).wp (fun o => ((lcT step (ds.drop (i + 1)) >>= fun rest => T.ret (match o with | some y => y :: rest | none => rest)).wp fun rest => RN W Z G H Q (acc ++ rest))) →
        rdE W F elt σ1 H4 fun y H5 => ∃ acc, H5 Dl = some (.lst acc) ∧ acc.length < sizeLine ∧ (i + 1 ≤ sh.length ∧ ∃ G' vs acc', Ext G1 H1 G' (upd H5 Dl (.lst (acc ++ [y]))) ∧ GInv W G' (upd H5 Dl (.lst (acc ++ [y]))) ∧ upd H5 Dl (.lst (acc ++ [y])) Dl = some (.lst vs) ∧ G' Dl = none ∧ RelL W (fun q => Z q ∨ q = Dl) G' (upd H5 Dl (.lst (acc ++ [y]))) vs acc' ∧ acc'.length ≤ i + 1 ∧ (lcT step (ds.drop (i + 1))).wp (fun rest => RN W Z G H Q (acc' ++ rest))) := fun {G4 H4} e4 g4 hp => by
      have s5 : SOk W (fun q => Z q ∨ q = Dl) G4 H4 env1 σ1 := SOk.ext s4 e4 g4
      refine s5.first hp fun y G5 H5 v e5 g5 s6 ry wy => ?_
      have e6 := e3.trans (e4.trans e5)
      have hc : y.isCell = false := by
        cases y with
        | cell xs => exact wy.elim
        | _ => rfl
      have wy' : (T.ret (some y)).wp (fun o => ((lcT step (ds.drop (i + 1)) >>= fun rest => T.ret (match o with | some y => y :: rest | none => rest)).wp fun rest => RN W Z G H Q (acc ++ rest))) := by
        cases y with
        | cell xs => exact wy.elim
        | _ => exact wy
      have wz := T.wp_bind.mp (show (lcT step (ds.drop (i + 1)) >>= fun rest => T.ret (y :: rest)).wp _ from wy')
      have hL5 := e6.ob _ _ hL gL
      have z : (fun q => Z q ∨ q = Dl) Dl := .inr rfl
      have hl := rl.length
      refine ⟨vs, hL5.1, by have := wk.len; omega, hlt, G5, vs ++ [v], acc ++ [y], ext_put (e2.trans e6) hD, g5.put s6.zo z, upd_same, hL5.2, ?_, by rw [List.length_append]; show acc.length + 1 ≤ i + 1; omega, ?_⟩
      · exact ((rl.ext e6).append (.cons (ry.r hc) .nil)).evo (fun p z => (s6.zo p z).1) (Evo.put z)
      · refine T.wp_imp wz fun rest hr => ?_
        have hr' : RN W Z G H Q (acc ++ y :: rest) := hr
        rw [List.append_assoc]
        exact hr'
    unfold ttOf
    unfold lcRest at hq
    have hq1 := T.wp_bind.mp hq
    by_cases hnil : isNil test = true
    · rw [if_pos hnil] at hq1 ⊢
      unfold tYes
      dsimp only
      rw [if_pos rfl]
      exact body (Ext.refl _ _) s4.gi hq1
    · rw [if_neg hnil] at hq1 ⊢
      refine ⟨_, G', env1, s4, T.wp_imp hq1 fun b hb G4 H4 e4 g4 => ?_⟩
      cases b with
      | true =>
        rw [if_pos rfl] at hb ⊢
        exact body e4 g4 hb
      | false =>
        simp only [Bool.false_eq_true, if_false] at hb ⊢
        exact fin e4 g4 hb
  · have ei : i = sh.length := by omega
    subst ei
    refine .inl ⟨wk.stop H' hk _ (Nat.le_refl _), ?_⟩
    rw [List.drop_eq_nil_of_le (by omega)] at hw
    have hw' : RN W Z G H Q (acc ++ []) := hw
    rw [List.append_nil] at hw'
    exact hw' G' H' vs Dl (e1.trans e2) g2 hD0 hL gL rl
theorem ownOf_snd (own : List Nat) : (ownOf k own).map (·.2) = own := by
  unfold ownOf
  rw [List.map_map]
  exact List.map_id _
theorem pts_of (c : Cn W F k sc X) {test : E} {ifs : List Expr} (h : (∃ c, ifs = [c] ∧ isNil test = false ∧ PT X c (rdT W F test)) ∨ (ifs = [] ∧ isNil test = true)) : PTs X ifs (ttOf W F test) := by
  unfold ttOf
  rcases h with ⟨e, rfl, h1, h2⟩ | ⟨rfl, h1⟩
  · rw [h1]
    exact pts_one h2
  · rw [h1]
    exact pts_nil
theorem g_lc (c : Cn W F k sc X) {tg : Tg} {own : List Nat} {it test elt : E} {ee t ie : Expr} {ifs : List Expr} {scope : Scope} {pos : Pos} (hb : blkC k.N sc scope (ownOf k own) = true) (hsub : tgSub own tg = true)
    (ht : chkTg k (relS scope sc) (fun x => scope.names.lookup x == some .cell) tg t = true) (hi : PI X t ie (rdI W F it)) (hns : notSet ie = true)
    (htest : ∀ X', Cn W F k (relS scope sc) X' → PTs X' ifs (ttOf W F test)) (helt : ∀ X', Cn W F k (relS scope sc) X' → PE X' ee (rdE W F elt)) :
    PE X (.ListComp ee [⟨t, ie, ifs, 0⟩] scope pos) (rdE W F (.lc tg own it test elt)) := by
  have ok : BlkOk X.N X.env.scope scope (ownOf k own) := by
    rw [c.N, c.sc]
    exact blkOk_by hb
  have q := pe_lc (pos := pos) c.calm (by rw [c.N]; exact c.nd) hi ok (fun s H C cl fp => g_tg (c.blk s H scope C cl fp) (tg := tg) (e := t) ht) (fun s H C cl fp => htest _ (c.blk s H scope C cl fp)) (fun s H C cl fp => helt _ (c.blk s H scope C cl fp)) (set_ok hns)
  rw [ownOf_snd] at q
  exact PE.imp q fun σ H Q h => lc_in hsub h
end
end Fm

/-! FmN: every expression that is checked computes what ev says. -/
namespace Fm
open PySem PySem.Spec PyProof.Rows L2
section
variable {W : Wd} {F : Fns} {k : Kn} {sc : Scope} {X : Cx}
theorem pt_ifExp {c a b : Expr} {pos : Pos} {tc ta tb : TT} (hc : PT X c tc) (ha : PT X a ta) (hb : PT X b tb) : PT X (.IfExp c a b pos) (fun σ H Q => tc σ H fun k H1 => if k = true then ta σ H1 Q else tb σ H1 Q) := by
  refine ⟨fun pins s σ H Q I h => ?_⟩
  show wpAny _ X.A (do if ← isTrue c X.env (eval c X.env) then isTrue a X.env (eval a X.env) else isTrue b X.env (eval b X.env)) _ _ s
  refine wpAny_bind (thn (hc.run pins s σ H _ I h) fun kk s1 ⟨H1, I1, q1⟩ => ?_)
  cases kk with
  | true => exact ha.run pins s1 σ H1 Q I1 q1
  | false => exact hb.run pins s1 σ H1 Q I1 q1
theorem t_ite {c a b : E} {ec ea eb : Expr} {pos : Pos} (hc : PT X ec (rdT W F c)) (ha : PT X ea (rdT W F a)) (hb : PT X eb (rdT W F b)) : PT X (.IfExp ec ea eb pos) (rdT W F (.ite c a b)) := by
  refine PT.imp (pt_ifExp hc ha hb) fun σ H Q q => ?_
  obtain ⟨Z, G, env, s, w⟩ := q
  have w' : (ev F c env >>= fun x => asB x >>= fun k => (if k = true then ev F a env >>= asB else ev F b env >>= asB)).wp fun b => ∀ G' H', Ext G H G' H' → GInv W G' H' → Q b H' := by
    have w1 := w
    rw [show ev F (.ite c a b) env = (ev F c env >>= fun x => asB x >>= fun k => if k = true then ev F a env else ev F b env) from rfl, T.bind_assoc] at w1
    have e : (fun x => (asB x >>= fun k => if k = true then ev F a env else ev F b env) >>= asB) = fun x => asB x >>= fun k => (if k = true then ev F a env >>= asB else ev F b env >>= asB) := funext fun x => by
      rw [T.bind_assoc]
      congr 1
      funext kk
      cases kk <;> rfl
    rw [e] at w1
    exact w1
  refine s.firstT w' fun kk G1 H1 e1 g1 s1 w1 => ?_
  cases kk with
  | true =>
    rw [if_pos rfl] at w1 ⊢
    exact ⟨Z, G1, env, s1, T.wp_imp w1 fun b hb G' H' e g => hb G' H' (e1.trans e) g⟩
  | false =>
    rw [if_neg Bool.false_ne_true] at w1 ⊢
    exact ⟨Z, G1, env, s1, T.wp_imp w1 fun b hb G' H' e g => hb G' H' (e1.trans e) g⟩
def isIt : E → Bool
  | .rng1 _ => true | .rng2 _ _ => true | .zip _ _ => true | .enum _ => true | _ => false
def isBO : Expr → Bool
  | .BoolOp _ _ _ => true | _ => false
def plainT : Expr → Bool
  | .UnaryOp .Not _ _ => false | .BoolOp _ _ _ => false | .IfExp _ _ _ _ => false | .Compare _ _ _ _ => false | _ => true
theorem plainT_ok {e : Expr} {env : PySem.Env} (h : plainT e = true) (whole : Sem Value) : isTrue e env whole = (do let v ← whole; standAt e.pos; holding [v] (truthy v)) := by
  cases e <;> first | rfl | cases h | skip
  rename_i op _ _
  cases op <;> first | rfl | cases h
structure Ok3 (W : Wd) (F : Fns) (X : Cx) (m : E) (e : Expr) : Prop where
  pe : PE X e (rdE W F m)
  pt : PT X e (rdT W F m)
  pw : isBO e = true → PW X e (rdT W F m)
theorem Ok3.val {m : E} {e : Expr} (h : PE X e (rdE W F m)) (hp : plainT e = true) : Ok3 W F X m e :=
  ⟨h, t_val h (plainT_ok hp), fun hb => by cases e <;> first | (cases hb; done) | (cases hp; done)⟩
theorem chk_noit {m : E} {e : Expr} (h : chkE k m sc none e = true) : isIt m = false := by
  cases m <;> first | rfl | skip
  all_goals
    unfold chkE at h
    cases e <;> cases h
structure Ok (W : Wd) (F : Fns) (k : Kn) (m : E) : Prop where
  ex : ∀ sc X tgt e, Cn W F k sc X → isIt m = false → chkE k m sc tgt e = true → Ok3 W F X m e
  ar : ∀ sc X es, Cn W F k sc X → chkEs k m sc es = true → PA X es (rdA W F m)
  it : ∀ sc X t e, Cn W F k sc X → isIt m = true → chkE k m sc (some t) e = true → PI X t e (rdI W F m)
theorem noargs {m : E} (h : ∀ sc es, chkEs k m sc es = false) : ∀ sc X es, Cn W F k sc X → chkEs k m sc es = true → PA X es (rdA W F m) := fun sc X es _ hc => by
  rw [h] at hc
  cases hc
theorem Ok.val {m : E} (hi : isIt m = false) (ha : ∀ sc es, chkEs k m sc es = false) (h : ∀ sc X tgt e, Cn W F k sc X → chkE k m sc tgt e = true → Ok3 W F X m e) : Ok W F k m :=
  ⟨fun sc X tgt e c _ hc => h sc X tgt e c hc, noargs ha, fun sc X t e c z _ => by rw [hi] at z; cases z⟩
theorem Ok.sub {m : E} (o : Ok W F k m) {e : Expr} (c : Cn W F k sc X) (h : chkE k m sc none e = true) : Ok3 W F X m e := o.ex sc X none e c (chk_noit h) h
theorem Ok.walk {m : E} (o : Ok W F k m) {t e : Expr} (c : Cn W F k sc X) (h : chkE k m sc (some t) e = true) : PI X t e (rdI W F m) := by
  cases hi : isIt m with
  | true => exact o.it sc X t e c hi h
  | false => exact i_any c (o.ex sc X _ e c hi h).pe
theorem ok_var (i : Nat) : Ok W F k (.var i) := .val rfl (fun _ es => by cases es <;> rfl) fun sc X tgt e c h => .val (g_var c h) (by unfold chkE at h; cases e <;> first | rfl | cases h)
theorem ok_gint (y : String) (j : Int) : Ok W F k (.gint y j) := .val rfl (fun _ es => by cases es <;> rfl) fun sc X tgt e c h => .val (g_gint c h) (by unfold chkE at h; cases e <;> first | rfl | cases h)
theorem ok_non : Ok W F k .non := .val rfl (fun _ es => by cases es <;> rfl) fun sc X tgt e c h => .val (g_non h) (by unfold chkE at h; cases e <;> first | rfl | cases h)
theorem ok_bl (b : Bool) : Ok W F k (.bl b) := .val rfl (fun _ es => by cases es <;> rfl) fun sc X tgt e c h => .val (g_bl h) (by unfold chkE at h; cases e <;> first | rfl | cases h)
theorem ok_int (i : Int) : Ok W F k (.int i) := .val rfl (fun _ es => by cases es <;> rfl) fun sc X tgt e c h => .val (g_int h) (by unfold chkE at h; cases e <;> first | rfl | cases h)
theorem ok_str (s : String) : Ok W F k (.str s) := .val rfl (fun _ es => by cases es <;> rfl) fun sc X tgt e c h => .val (g_str h) (by unfold chkE at h; cases e <;> first | rfl | cases h)
theorem ok_emp : Ok W F k .emp := .val rfl (fun _ es => by cases es <;> rfl) fun sc X tgt e c h => by
  unfold chkE at h
  cases e <;> first | cases h | skip
  rename_i ks vs pos
  rcases ks with _ | ⟨x, ks⟩ <;> rcases vs with _ | ⟨y, vs⟩ <;> first | (cases h; done) | (cases x <;> cases h; done) | skip
  refine .val (PE.imp pe_dnewK fun σ H Q q => ?_) rfl
  obtain ⟨Z, G, env, s, w⟩ := q
  exact fun p hp => (show RQ W Z G H Q .emp from w) G _ _ (Ext.new hp) (s.gi.new hp) (Rel.emp upd_same (s.gi.free hp)).s
theorem ok_tup {as : E} (o : Ok W F k as) : Ok W F k (.tup as) := .val rfl (fun _ es => by cases es <;> rfl) fun sc X tgt e c h => by
  unfold chkE at h
  cases e <;> first | cases h | skip
  exact .val (g_tup (o.ar sc X _ c h)) rfl
theorem ok_lst {as : E} (o : Ok W F k as) : Ok W F k (.lst as) := .val rfl (fun _ es => by cases es <;> rfl) fun sc X tgt e c h => by
  unfold chkE at h
  cases e <;> first | cases h | skip
  exact .val (g_lst (o.ar sc X _ c h)) rfl
theorem ok_op {op : O2} {a b : E} (oa : Ok W F k a) (ob : Ok W F k b) : Ok W F k (.op op a b) := .val rfl (fun _ es => by cases es <;> rfl) fun sc X tgt e c h => by
  unfold chkE at h
  cases e <;> first | cases h | skip
  · simp only [Bool.and_eq_true, decide_eq_true_eq] at h
    exact .val (g_bin c h.1 (oa.sub c h.2.1).pe (ob.sub c h.2.2).pe) rfl
  · rename_i ea ops es pos
    rcases ops with _ | ⟨p, _ | ⟨p2, ops⟩⟩ <;> first | cases h | skip
    rcases es with _ | ⟨eb, _ | ⟨e2, es⟩⟩ <;> first | cases h | skip
    simp only [Bool.and_eq_true, decide_eq_true_eq] at h
    exact ⟨g_cmp c h.1 h.2.1 (oa.sub c h.2.2.1).pe (ob.sub c h.2.2.2).pe, t_cmp c h.1 h.2.1 (oa.sub c h.2.2.1).pe (ob.sub c h.2.2.2).pe, fun z => by cases z⟩
theorem ok_ceq {n : Bool} {a b : E} (oa : Ok W F k a) (ob : Ok W F k b) : Ok W F k (.ceq n a b) := .val rfl (fun _ es => by cases es <;> rfl) fun sc X tgt e c h => by
  unfold chkE at h
  cases e <;> first | cases h | skip
  rename_i ea ops es pos
  rcases ops with _ | ⟨p, _ | ⟨p2, ops⟩⟩ <;> first | cases h | skip
  rcases es with _ | ⟨eb, _ | ⟨e2, es⟩⟩ <;> first | cases h | skip
  rw [Bool.and_eq_true, Bool.and_eq_true, Bool.and_eq_true, Bool.and_eq_true, decide_eq_true_eq] at h
  obtain ⟨rfl, h1, h2, h3, h4⟩ := h
  exact ⟨g_ceq c h1 h2 (oa.sub c h3).pe (ob.sub c h4).pe, t_ceq c h1 h2 (oa.sub c h3).pe (ob.sub c h4).pe, fun z => by cases z⟩
theorem ok_chain {o1 o2 : O2} {a b d : E} (oa : Ok W F k a) (ob : Ok W F k b) (od : Ok W F k d) : Ok W F k (.chain o1 o2 a b d) := .val rfl (fun _ es => by cases es <;> rfl) fun sc X tgt e c h => by
  unfold chkE at h
  cases e <;> first | cases h | skip
  rename_i ea ops es pos
  rcases ops with _ | ⟨p, _ | ⟨p2, _ | ⟨p3, ops⟩⟩⟩ <;> first | cases h | skip
  rcases es with _ | ⟨eb, _ | ⟨e2, _ | ⟨e3, es⟩⟩⟩ <;> first | cases h | skip
  simp only [Bool.and_eq_true, decide_eq_true_eq] at h
  obtain ⟨h1, h2, h3, h4, h5, h6⟩ := h
  exact ⟨g_chain c h1 h2 h3 (oa.sub c h4).pe (ob.sub c h5).pe (od.sub c h6).pe, t_chain c h1 h2 h3 (oa.sub c h4).pe (ob.sub c h5).pe (od.sub c h6).pe, fun z => by cases z⟩
theorem ok_neg {a : E} (oa : Ok W F k a) : Ok W F k (.neg a) := .val rfl (fun _ es => by cases es <;> rfl) fun sc X tgt e c h => by
  unfold chkE at h
  cases e <;> first | cases h | skip
  rename_i op ea pos
  cases op <;> first | cases h | skip
  exact .val (g_neg (oa.sub c h).pe) rfl
theorem ok_nt {a : E} (oa : Ok W F k a) : Ok W F k (.nt a) := .val rfl (fun _ es => by cases es <;> rfl) fun sc X tgt e c h => by
  unfold chkE at h
  cases e <;> first | cases h | skip
  rename_i op ea pos
  cases op <;> first | cases h | skip
  exact ⟨g_nt (oa.sub c h).pe, t_nt (oa.sub c h).pt, fun z => by cases z⟩
theorem ok_and {a b : E} (oa : Ok W F k a) (ob : Ok W F k b) : Ok W F k (.and a b) := .val rfl (fun _ es => by cases es <;> rfl) fun sc X tgt e c h => by
  unfold chkE at h
  cases e <;> first | cases h | skip
  rename_i op es pos
  cases op <;> first | cases h | skip
  rcases es with _ | ⟨ea, _ | ⟨eb, _ | ⟨er, rest⟩⟩⟩ <;> first | cases h | skip
  · obtain ⟨h1, h2⟩ := Bool.and_eq_true_iff.mp h
    have x := oa.sub c h1
    have y := ob.sub c (e := eb) h2
    have z := w_and (pos := pos) x.pt (pw_and1 y.pt)
    exact ⟨g_and x.pe (pe_one y.pe), z.pt, fun _ => z⟩
  · obtain ⟨h1, h2⟩ := Bool.and_eq_true_iff.mp h
    have x := oa.sub c h1
    have y := ob.sub c (e := .BoolOp .And (eb :: er :: rest) pos) h2
    have z := w_and (pos := pos) x.pt (y.pw rfl)
    exact ⟨g_and x.pe y.pe, z.pt, fun _ => z⟩
theorem ok_or {a b : E} (oa : Ok W F k a) (ob : Ok W F k b) : Ok W F k (.or a b) := .val rfl (fun _ es => by cases es <;> rfl) fun sc X tgt e c h => by
  unfold chkE at h
  cases e <;> first | cases h | skip
  rename_i op es pos
  cases op <;> first | cases h | skip
  rcases es with _ | ⟨ea, _ | ⟨eb, _ | ⟨er, rest⟩⟩⟩ <;> first | cases h | skip
  · obtain ⟨h1, h2⟩ := Bool.and_eq_true_iff.mp h
    have x := oa.sub c h1
    have y := ob.sub c (e := eb) h2
    have z := w_or (pos := pos) x.pt (pw_or1 y.pt)
    exact ⟨g_or x.pe (pe_one y.pe), z.pt, fun _ => z⟩
  · obtain ⟨h1, h2⟩ := Bool.and_eq_true_iff.mp h
    have x := oa.sub c h1
    have y := ob.sub c (e := .BoolOp .Or (eb :: er :: rest) pos) h2
    have z := w_or (pos := pos) x.pt (y.pw rfl)
    exact ⟨g_or x.pe y.pe, z.pt, fun _ => z⟩
theorem ok_ite {d a b : E} (od : Ok W F k d) (oa : Ok W F k a) (ob : Ok W F k b) : Ok W F k (.ite d a b) := .val rfl (fun _ es => by cases es <;> rfl) fun sc X tgt e c h => by
  unfold chkE at h
  cases e <;> first | cases h | skip
  simp only [Bool.and_eq_true] at h
  obtain ⟨h1, h2, h3⟩ := h
  have x := od.sub c h1
  have y := oa.sub c h2
  have z := ob.sub c h3
  exact ⟨g_ite x.pt y.pe z.pe, t_ite x.pt y.pt z.pt, fun z => by cases z⟩
theorem ok_call {f : String} {as : E} (o : Ok W F k as) : Ok W F k (.call f as) := .val rfl (fun _ es => by cases es <;> rfl) fun sc X tgt e c h => by
  unfold chkE at h
  cases e <;> first | cases h | skip
  rename_i ef es kws pos
  cases ef <;> first | cases h | skip
  cases kws <;> first | cases h | skip
  simp only [Bool.and_eq_true, decide_eq_true_eq] at h
  obtain ⟨h1, h2, h3, h4, h6, h5⟩ := h
  exact .val (g_call c h1 h2 h3 h4 h6 h5 (o.ar sc X _ c h5)) rfl
theorem ok_blt {f : Bi} {as : E} (ex : ∀ a, (as = .cons a .nil ∨ ∃ b, as = .cons a (.cons b .nil) ∨ as = .cons b (.cons a .nil)) → Ok W F k a) : Ok W F k (.blt f as) := .val rfl (fun _ es => by cases es <;> rfl) fun sc X tgt e c h => by
  rcases as with _ | ⟨a, _ | ⟨b, _ | _⟩⟩ <;> (try (unfold chkE at h; cases e <;> cases h; done))
  · unfold chkE at h
    cases e <;> first | cases h | skip
    rename_i ef es kws pos
    cases ef <;> first | cases h | skip
    rcases es with _ | ⟨ea, _ | ⟨eb, es⟩⟩ <;> first | cases h | skip
    cases kws <;> first | cases h | skip
    rename_i x px
    rw [Bool.and_eq_true, Bool.and_eq_true, decide_eq_true_eq] at h
    obtain ⟨rfl, h2, h3⟩ := h
    cases hr : biRange f with
    | false =>
      rw [hr] at h3
      simp only [Bool.false_eq_true, if_false, Bool.and_eq_true] at h3
      exact .val (g_blt1 c h2 hr h3.1 ((ex a (.inl rfl)).sub c h3.2).pe) rfl
    | true =>
      rw [hr, if_pos rfl] at h3
      cases ea <;> first | cases h3 | skip
      rename_i ef es kws pos2
      cases ef <;> first | cases h3 | skip
      rcases es with _ | ⟨ea, _ | ⟨eb, es⟩⟩ <;> first | cases h3 | skip
      cases kws <;> first | cases h3 | skip
      rename_i y py
      simp only [Bool.and_eq_true, decide_eq_true_eq] at h3
      obtain ⟨rfl, h4, h5, h6⟩ := h3
      cases f <;> first | cases hr | skip
      · exact .val (g_tupR c h2 h4 h5 ((ex a (.inl rfl)).sub c h6).pe) rfl
      · exact .val (g_lstR c h2 h4 h5 ((ex a (.inl rfl)).sub c h6).pe) rfl
  · unfold chkE at h
    cases e <;> first | cases h | skip
    rename_i ef es kws pos
    cases ef <;> first | cases h | skip
    rcases es with _ | ⟨ea, _ | ⟨eb, _ | ⟨e3, es⟩⟩⟩ <;> first | cases h | skip
    cases kws <;> first | cases h | skip
    rename_i x px
    simp only [Bool.and_eq_true, Bool.or_eq_true, decide_eq_true_eq] at h
    obtain ⟨rfl, h2, h3, h4, h5, h6, h7⟩ := h
    have hr : biRange f = false := by rcases h3 with rfl | rfl <;> rfl
    exact .val (g_blt2 c h2 hr h4 h5 ((ex a (.inr ⟨b, .inl rfl⟩)).sub c h6).pe ((ex b (.inr ⟨a, .inr rfl⟩)).sub c h7).pe) rfl
theorem ki_names {kd : Ki} {t u : String} : (kiNames kd = [t] → t ∈ tyNames) ∧ (kiNames kd = [t, u] → t ∈ tyNames ∧ u ∈ tyNames) := by
  cases kd <;> refine ⟨fun h => ?_, fun h => ?_⟩ <;> cases h <;> first | (unfold tyNames; decide) | (refine ⟨?_, ?_⟩ <;> unfold tyNames <;> decide)
theorem nmE_ok {e : Expr} {x : Str} (h : nmE e = some x) : ∃ p, e = .Name x p := by
  cases e <;> first | cases h | skip
  exact ⟨_, rfl⟩
theorem ok_isi {a : E} {kd : Ki} (oa : Ok W F k a) : Ok W F k (.isi a kd) := .val rfl (fun _ es => by cases es <;> rfl) fun sc X tgt e c h => by
  unfold chkE at h
  cases e <;> first | cases h | skip
  rename_i ef es kws pos
  cases ef <;> first | cases h | skip
  rcases es with _ | ⟨ea, _ | ⟨et, _ | ⟨e3, es⟩⟩⟩ <;> first | cases h | skip
  cases kws <;> first | cases h | skip
  rename_i x px
  rw [Bool.and_eq_true, Bool.and_eq_true, Bool.and_eq_true, Bool.and_eq_true, decide_eq_true_eq] at h
  obtain ⟨rfl, h2, h3, h4, h5⟩ := h
  have x := (oa.sub c h4).pe
  split at h5
  · rename_i t hk
    simp only [Bool.and_eq_true, decide_eq_true_eq] at h5
    obtain ⟨p, rfl⟩ := nmE_ok h5.1
    exact .val (g_isi1 c hk ((ki_names (u := t)).1 hk) h2 h5.2 h3 x) rfl
  · rename_i t u hk
    cases et <;> first | cases h5 | skip
    rename_i es kk pos2
    rcases es with _ | ⟨e1, _ | ⟨e2, _ | ⟨e3, es⟩⟩⟩ <;> first | cases h5 | skip
    simp only [Bool.and_eq_true, decide_eq_true_eq] at h5
    obtain ⟨p1, rfl⟩ := nmE_ok h5.1
    obtain ⟨p2, rfl⟩ := nmE_ok h5.2.1
    exact .val (g_isi2 c hk (ki_names.2 hk).1 (ki_names.2 hk).2 h2 h5.2.2.1 h5.2.2.2 h3 x) rfl
  · cases h5
theorem ok_attr {a : E} {f : String} (oa : Ok W F k a) : Ok W F k (.attr a f) := .val rfl (fun _ es => by cases es <;> rfl) fun sc X tgt e c h => by
  unfold chkE at h
  cases e <;> first | cases h | skip
  simp only [Bool.and_eq_true, decide_eq_true_eq] at h
  exact .val (g_attr c h.1 h.2.1 (oa.sub c h.2.2).pe) rfl
theorem ok_ix {a i : E} (oa : Ok W F k a) (oi : Ok W F k i) : Ok W F k (.ix a i) := .val rfl (fun _ es => by cases es <;> rfl) fun sc X tgt e c h => by
  unfold chkE at h
  cases e <;> first | cases h | skip
  simp only [Bool.and_eq_true] at h
  exact .val (g_ix c h.1 (oa.sub c h.2.1).pe (oi.sub c h.2.2).pe) rfl
theorem po_of {m : E} {l : Option Expr} (o : Ok W F k m) (c : Cn W F k sc X) (h : (match l with | none => isNil m | some e => !isNil m && chkE k m sc none e) = true) : PO X l (rdP W F m) := by
  cases l with
  | none => exact po_no h
  | some e =>
    simp only [Bool.and_eq_true, Bool.not_eq_true'] at h
    exact po_yes h.1 (o.sub c h.2).pe
theorem ok_sl {a lo hi : E} (oa : Ok W F k a) (ol : Ok W F k lo) (oh : Ok W F k hi) : Ok W F k (.sl a lo hi) := .val rfl (fun _ es => by cases es <;> rfl) fun sc X tgt e c h => by
  unfold chkE at h
  cases e <;> first | cases h | skip
  rename_i ea es pos
  cases es <;> first | cases h | skip
  rename_i l hh st p2
  cases st <;> first | cases h | skip
  rw [Bool.and_eq_true, Bool.and_eq_true] at h
  exact .val (g_sl c (oa.sub c h.1).pe (po_of ol c h.2.1) (po_of oh c h.2.2)) rfl
theorem ok_rev {a : E} (oa : Ok W F k a) : Ok W F k (.rev a) := .val rfl (fun _ es => by cases es <;> rfl) fun sc X tgt e c h => by
  unfold chkE at h
  cases e <;> first | cases h | skip
  rename_i ea es pos
  cases es <;> first | cases h | skip
  rename_i l hh st p2
  cases l <;> cases hh <;> first | cases h | skip
  cases st <;> first | cases h | skip
  rename_i st
  cases st <;> first | cases h | skip
  rename_i o e p3
  cases o <;> first | cases h | skip
  cases e <;> first | cases h | skip
  rename_i cc kk p4
  cases cc <;> first | cases h | skip
  simp only [Bool.and_eq_true, decide_eq_true_eq] at h
  obtain ⟨rfl, h⟩ := h
  exact .val (g_rev c (oa.sub c h).pe) rfl
theorem ok_lc {tg : Tg} {own : List Nat} {it test elt : E} (oi : Ok W F k it) (ot : Ok W F k test) (oe : Ok W F k elt) : Ok W F k (.lc tg own it test elt) := .val rfl (fun _ es => by cases es <;> rfl) fun sc X tgt e c h => by
  unfold chkE at h
  cases e <;> first | cases h | skip
  rename_i ee gens scope pos
  rcases gens with _ | ⟨⟨t, ie, ifs, as⟩, _ | ⟨g2, gs⟩⟩ <;> first | cases h | skip
  rw [Bool.and_eq_true, Bool.and_eq_true, Bool.and_eq_true, Bool.and_eq_true, Bool.and_eq_true, Bool.and_eq_true, Bool.and_eq_true, decide_eq_true_eq] at h
  obtain ⟨rfl, h1, h2, h3, h4, h5, h6, h7⟩ := h
  refine .val (g_lc c h1 h2 h3 (oi.walk c h4) h5 (fun X' c' => pts_of c' ?_) (fun X' c' => (oe.sub c' h7).pe)) rfl
  rcases ifs with _ | ⟨e1, _ | ⟨e2, es⟩⟩
  · exact .inr ⟨rfl, h6⟩
  · simp only [Bool.and_eq_true, Bool.not_eq_true'] at h6
    exact .inl ⟨e1, rfl, h6.1, (ot.sub c' h6.2).pt⟩
  · cases h6
theorem Ok.itr {m : E} (ha : ∀ sc es, chkEs k m sc es = false) (hi : isIt m = true) (h : ∀ sc X t e, Cn W F k sc X → chkE k m sc (some t) e = true → PI X t e (rdI W F m)) : Ok W F k m :=
  ⟨fun sc X tgt e c z _ => (by rw [hi] at z; cases z), noargs ha, fun sc X t e c _ hc => h sc X t e c hc⟩
theorem ok_rng1 {a : E} (oa : Ok W F k a) : Ok W F k (.rng1 a) := .itr (fun _ es => by cases es <;> rfl) rfl fun sc X t e c h => by
  unfold chkE at h
  cases e <;> first | cases h | skip
  rename_i ef es kws pos
  cases ef <;> first | cases h | skip
  rcases es with _ | ⟨ea, _ | ⟨eb, es⟩⟩ <;> first | cases h | skip
  cases kws <;> first | cases h | skip
  simp only [Bool.and_eq_true, decide_eq_true_eq] at h
  obtain ⟨rfl, h2, h3, h4⟩ := h
  exact i_rng1 c h2 h3 (oa.sub c h4).pe
theorem ok_rng2 {a b : E} (oa : Ok W F k a) (ob : Ok W F k b) : Ok W F k (.rng2 a b) := .itr (fun _ es => by cases es <;> rfl) rfl fun sc X t e c h => by
  unfold chkE at h
  cases e <;> first | cases h | skip
  rename_i ef es kws pos
  cases ef <;> first | cases h | skip
  rcases es with _ | ⟨ea, _ | ⟨eb, _ | ⟨e3, es⟩⟩⟩ <;> first | cases h | skip
  cases kws <;> first | cases h | skip
  simp only [Bool.and_eq_true, decide_eq_true_eq] at h
  obtain ⟨rfl, h2, h3, h4, h5, h6⟩ := h
  exact i_rng2 c h2 h3 h4 (oa.sub c h5).pe (ob.sub c h6).pe
theorem ok_zip {a b : E} (oa : Ok W F k a) (ob : Ok W F k b) : Ok W F k (.zip a b) := .itr (fun _ es => by cases es <;> rfl) rfl fun sc X t e c h => by
  unfold chkE at h
  cases e <;> first | cases h | skip
  rename_i ef es kws pos
  cases ef <;> first | cases h | skip
  rcases es with _ | ⟨ea, _ | ⟨eb, _ | ⟨e3, es⟩⟩⟩ <;> first | cases h | skip
  cases kws <;> first | cases h | skip
  simp only [Bool.and_eq_true, decide_eq_true_eq] at h
  obtain ⟨h1, rfl, h2, h3, h4, h5, h6⟩ := h
  exact i_zip c h1 h2 h3 h4 (oa.sub c h5).pe (ob.sub c h6).pe
theorem ok_enum {a : E} (oa : Ok W F k a) : Ok W F k (.enum a) := .itr (fun _ es => by cases es <;> rfl) rfl fun sc X t e c h => by
  unfold chkE at h
  cases e <;> first | cases h | skip
  rename_i ef es kws pos
  cases ef <;> first | cases h | skip
  rcases es with _ | ⟨ea, _ | ⟨eb, es⟩⟩ <;> first | cases h | skip
  cases kws <;> first | cases h | skip
  simp only [Bool.and_eq_true, decide_eq_true_eq] at h
  obtain ⟨h1, rfl, h2, h3, h4⟩ := h
  exact i_enum c h1 h2 h3 (oa.sub c h4).pe
theorem ok_nil : Ok W F k .nil :=
  ⟨fun sc X tgt e c _ h => (by unfold chkE at h; cases e <;> cases h), fun sc X es c h => (by
    unfold chkEs at h
    cases es <;> first | cases h | skip
    exact g_nil), fun _ _ _ _ _ z _ => by cases z⟩
theorem ok_cons {a as : E} (oa : Ok W F k a) (os : Ok W F k as) : Ok W F k (.cons a as) :=
  ⟨fun sc X tgt e c _ h => (by unfold chkE at h; cases e <;> cases h), fun sc X es c h => (by
    unfold chkEs at h
    cases es <;> first | cases h | skip
    simp only [Bool.and_eq_true] at h
    exact g_cons h.1 (oa.sub c h.2.1).pe (os.ar sc X _ c h.2.2)), fun _ _ _ _ _ z _ => by cases z⟩
def E.parts : E → List E
  | .cons a as => a :: E.parts as
  | _ => []
/-- every expression, and the parts of an argument list -/
theorem all_ok (W : Wd) (F : Fns) (k : Kn) (m : E) : Ok W F k m ∧ ∀ a ∈ m.parts, Ok W F k a := by
  induction m with
  | nil => exact ⟨ok_nil, fun _ z => by cases z⟩
  | cons a as ha has => exact ⟨ok_cons ha.1 has.1, fun b hb => by
      rcases List.mem_cons.mp hb with e | e
      · exact e ▸ ha.1
      · exact has.2 b e⟩
  | var i => exact ⟨ok_var i, fun _ z => by cases z⟩
  | non => exact ⟨ok_non, fun _ z => by cases z⟩
  | bl b => exact ⟨ok_bl b, fun _ z => by cases z⟩
  | int i => exact ⟨ok_int i, fun _ z => by cases z⟩
  | str s => exact ⟨ok_str s, fun _ z => by cases z⟩
  | tup as h => exact ⟨ok_tup h.1, fun _ z => by cases z⟩
  | lst as h => exact ⟨ok_lst h.1, fun _ z => by cases z⟩
  | op o a b ha hb => exact ⟨ok_op ha.1 hb.1, fun _ z => by cases z⟩
  | chain o1 o2 a b c ha hb hc => exact ⟨ok_chain ha.1 hb.1 hc.1, fun _ z => by cases z⟩
  | neg a h => exact ⟨ok_neg h.1, fun _ z => by cases z⟩
  | nt a h => exact ⟨ok_nt h.1, fun _ z => by cases z⟩
  | and a b ha hb => exact ⟨ok_and ha.1 hb.1, fun _ z => by cases z⟩
  | or a b ha hb => exact ⟨ok_or ha.1 hb.1, fun _ z => by cases z⟩
  | ite c a b hc ha hb => exact ⟨ok_ite hc.1 ha.1 hb.1, fun _ z => by cases z⟩
  | call f as h => exact ⟨ok_call h.1, fun _ z => by cases z⟩
  | blt f as h => exact ⟨ok_blt fun a ha => h.2 a (by
      rcases ha with rfl | ⟨b, rfl | rfl⟩
      · exact List.mem_cons_self
      · exact List.mem_cons_self
      · exact List.mem_cons_of_mem _ List.mem_cons_self), fun _ z => by cases z⟩
  | isi a kd h => exact ⟨ok_isi h.1, fun _ z => by cases z⟩
  | attr a f h => exact ⟨ok_attr h.1, fun _ z => by cases z⟩
  | ix a i ha hi => exact ⟨ok_ix ha.1 hi.1, fun _ z => by cases z⟩
  | sl a lo hi h1 h2 h3 => exact ⟨ok_sl h1.1 h2.1 h3.1, fun _ z => by cases z⟩
  | rev a h => exact ⟨ok_rev h.1, fun _ z => by cases z⟩
  | lc tg own it test elt h1 h2 h3 => exact ⟨ok_lc h1.1 h2.1 h3.1, fun _ z => by cases z⟩
  | rng1 a h => exact ⟨ok_rng1 h.1, fun _ z => by cases z⟩
  | rng2 a b ha hb => exact ⟨ok_rng2 ha.1 hb.1, fun _ z => by cases z⟩
  | zip a b ha hb => exact ⟨ok_zip ha.1 hb.1, fun _ z => by cases z⟩
  | enum a h => exact ⟨ok_enum h.1, fun _ z => by cases z⟩
  | gint y j => exact ⟨ok_gint y j, fun _ z => by cases z⟩
  | emp => exact ⟨ok_emp, fun _ z => by cases z⟩
  | ceq n a b ha hb => exact ⟨ok_ceq ha.1 hb.1, fun _ z => by cases z⟩
end
end Fm

/-! FmO: the state through statements. -/
namespace Fm
open PySem PySem.Spec PyProof.Rows L2
section
variable {W : Wd} {F : Fns} {k : Kn} {sc : Scope} {X : Cx}
variable {Z0 : Addr → Prop} {G0 : Gh} {H0 : Hp}
/-- what is fixed at a function's entry, the state now -/
structure FS (W : Wd) (Z0 : Addr → Prop) (G0 : Gh) (H0 : Hp) (Z : Addr → Prop) (G : Gh) (H : Hp) (env : Env) (σ : L2.St) : Prop where
  s : SOk W Z G H env σ
  e : Ext G0 H0 G H
  z : ∀ p, Z0 p → Z p
  z0 : ZOk Z0 G0 H0
  own : ∀ (i : Nat) xs p, env[i]? = some (some (.cell xs)) → σ[i]? = some (some (.ref p)) → H0 p = none
  zn : ∀ p, Z p → Z0 p ∨ H0 p = none
/-- new own places -/
structure Grow (Z : Addr → Prop) (G : Gh) (H : Hp) (Z' : Addr → Prop) (G' : Gh) (H' : Hp) : Prop where
  e : Ext G H G' H'
  z : ∀ p, Z p → Z' p
  n : ∀ p, Z' p → Z p ∨ H p = none
/-- what a statement keeps -/
structure EvS (ts : List Nat) (Z : Addr → Prop) (G : Gh) (H : Hp) (env : Env) (σ : L2.St) (Z' : Addr → Prop) (G' : Gh) (H' : Hp) (env' : Env) (σ' : L2.St) : Prop where
  evo : Evo Z G H Z' G' H'
  keep : ∀ j, 2 * j ∉ ts → 2 * j + 1 ∉ ts → env'[j]? = env[j]?
  plc : ∀ j, 2 * j + 1 ∉ ts → σ'[j]? = σ[j]?
  cell : ∀ (j : Nat) xs p, 2 * j ∉ ts → 2 * j + 1 ∉ ts → env[j]? = some (some (.cell xs)) → σ[j]? = some (some (.ref p)) → H' p = H p
variable {Z Z' Z2 : Addr → Prop} {G G' G2 : Gh} {H H' H2 : Hp} {env env' env2 : Env} {σ σ' σ2 : L2.St} {ts ts1 ts2 : List Nat} {D1 : Ends}
theorem Grow.refl (Z : Addr → Prop) (G : Gh) (H : Hp) : Grow Z G H Z G H := ⟨Ext.refl G H, fun _ z => z, fun _ z => .inl z⟩
theorem Grow.ext (e : Ext G H G' H') : Grow Z G H Z G' H' := ⟨e, fun _ z => z, fun _ z => .inl z⟩
theorem Grow.trans (a : Grow Z G H Z' G' H') (b : Grow Z' G' H' Z2 G2 H2) (g : GInv W G' H') : Grow Z G H Z2 G2 H2 :=
  ⟨a.e.trans b.e, fun p z => b.z p (a.z p z), fun p z => (b.n p z).elim (a.n p) fun h => .inr (a.e.none h g)⟩
theorem Grow.evo (g : Grow Z G H Z' G' H') : Evo Z G H Z' G' H' :=
  ⟨g.e.gh, fun p o h h2 n => ⟨(g.e.ob p o h h2).1, (g.e.ob p o h h2).2, fun z => (g.n p z).elim n fun e => by rw [h] at e; cases e⟩⟩
theorem EvS.refl (s : SOk W Z G H env σ) : EvS [] Z G H env σ Z G H env σ := ⟨Evo.refl Z G H, fun _ _ _ => rfl, fun _ _ => rfl, fun _ _ _ _ _ _ _ => rfl⟩
theorem EvS.mono (h : EvS ts1 Z G H env σ Z' G' H' env' σ') (m : ∀ j ∈ ts1, j ∈ ts) : EvS ts Z G H env σ Z' G' H' env' σ' :=
  ⟨h.evo, fun j n n2 => h.keep j (fun z => n (m _ z)) (fun z => n2 (m _ z)), fun j n => h.plc j fun z => n (m _ z), fun j xs p n n2 => h.cell j xs p (fun z => n (m _ z)) fun z => n2 (m _ z)⟩
theorem EvS.trans (a : EvS ts Z G H env σ Z' G' H' env' σ') (b : EvS ts Z' G' H' env' σ' Z2 G2 H2 env2 σ2) : EvS ts Z G H env σ Z2 G2 H2 env2 σ2 :=
  ⟨a.evo.trans b.evo, fun j n n2 => (b.keep j n n2).trans (a.keep j n n2), fun j n => (b.plc j n).trans (a.plc j n), fun j xs p n n2 h1 h2 =>
    (b.cell j xs p n n2 ((a.keep j n n2).trans h1) ((a.plc j n2).trans h2)).trans (a.cell j xs p n n2 h1 h2)⟩
theorem SOk.place (s : SOk W Z G H env σ) {i : Nat} {xs : List D} {p : Addr} (h1 : env[i]? = some (some (.cell xs))) (h2 : σ[i]? = some (some (.ref p))) : ∃ vs, H p = some (.lst vs) ∧ G p = none ∧ Z p ∧ RelL W Z G H vs xs := by
  obtain ⟨v, hv, q, vs, e, h, z, rl⟩ := s.sl i _ h1
  rw [h2] at hv
  cases hv
  cases e
  exact ⟨vs, h, (s.zo _ z).2, z, rl⟩
theorem EvS.grow (s : SOk W Z G H env σ) (g : Grow Z G H Z' G' H') : EvS [] Z G H env σ Z' G' H' env σ :=
  ⟨g.evo, fun _ _ _ => rfl, fun _ _ => rfl, fun j xs p _ _ h1 h2 => by
    obtain ⟨vs, h, gp, _⟩ := s.place h1 h2
    rw [h, (g.e.ob _ _ h gp).1]⟩
theorem FS.grow (f : FS W Z0 G0 H0 Z G H env σ) (g : Grow Z G H Z' G' H') (s : SOk W Z' G' H' env σ) : FS W Z0 G0 H0 Z' G' H' env σ :=
  ⟨s, f.e.trans g.e, fun p z => g.z p (f.z p z), f.z0, f.own, fun p z => (g.n p z).elim (f.zn p) fun h => .inr (f.e.none h f.s.gi)⟩
theorem FS.ext (f : FS W Z0 G0 H0 Z G H env σ) (e : Ext G H G' H') (g : GInv W G' H') : FS W Z0 G0 H0 Z G' H' env σ := f.grow (.ext e) (f.s.ext e g)
/-! storing -/
theorem set_get {α : Type} {l : List (Option α)} {i j : Nat} {x : Option α} {y : α} (h : (l.set i x)[j]? = some (some y)) : (i = j ∧ x = some y) ∨ (i ≠ j ∧ l[j]? = some (some y)) := by
  by_cases e : i = j
  · subst e
    by_cases hl : i < l.length
    · rw [List.getElem?_set_self hl] at h
      exact .inl ⟨rfl, Option.some.inj h⟩
    · rw [List.getElem?_eq_none (by rw [List.length_set]; omega)] at h
      cases h
  · rw [List.getElem?_set_ne e] at h
    exact .inr ⟨e, h⟩
/-- a value to be stored: a new own list lies at a place that no name has -/
def NewAt (H0 : Hp) (env : Env) (σ : L2.St) (v : V) (d : D) : Prop := ∀ xs p, d = .cell xs → v = .ref p → H0 p = none ∧ ∀ (j : Nat) ys, env[j]? = some (some (.cell ys)) → σ[j]? ≠ some (some (.ref p))
theorem FS.put {v : V} {d : D} (f : FS W Z0 G0 H0 Z G H env σ) (r : RelS W Z G H v d) (n : NewAt H0 env σ v d) (i : Nat) : FS W Z0 G0 H0 Z G H (env.set i (some d)) (σ.set i (some v)) := by
  refine ⟨⟨by rw [List.length_set, List.length_set]; exact f.s.len, f.s.gi, f.s.zo, fun j e h => ?_, fun j l xs ys p h1 h2 h3 h4 => ?_⟩, f.e, f.z, f.z0, fun j xs p h1 h2 => ?_, f.zn⟩
  · have hl : ∀ {x : D}, (env.set i (some d))[j]? = some (some x) → j < env.length := fun {x} h => by
      by_cases hl : j < env.length
      · exact hl
      · rw [List.getElem?_eq_none (by rw [List.length_set]; omega)] at h
        cases h
    have hlj := hl h
    rcases set_get h with ⟨rfl, e1⟩ | ⟨ne, h⟩
    · cases e1
      exact ⟨v, List.getElem?_set_self (Nat.lt_of_lt_of_le hlj f.s.len), r⟩
    · rw [List.getElem?_set_ne ne]
      exact f.s.sl j e h
  · rcases set_get h1 with ⟨rfl, e1⟩ | ⟨n1, h1⟩
    · rcases set_get h2 with ⟨e, _⟩ | ⟨n2, h2⟩
      · exact e
      · rcases set_get h3 with ⟨_, e3⟩ | ⟨z, _⟩
        · rcases set_get h4 with ⟨z, _⟩ | ⟨_, h4⟩
          · exact absurd z n2
          · exact absurd h4 ((n xs p (Option.some.inj e1) (Option.some.inj e3)).2 l ys h2)
        · exact absurd rfl z
    · rcases set_get h2 with ⟨rfl, e2⟩ | ⟨n2, h2⟩
      · rcases set_get h4 with ⟨_, e4⟩ | ⟨z, _⟩
        · rcases set_get h3 with ⟨z, _⟩ | ⟨_, h3⟩
          · exact absurd z n1
          · exact absurd h3 ((n ys p (Option.some.inj e2) (Option.some.inj e4)).2 j xs h1)
        · exact absurd rfl z
      · rw [List.getElem?_set_ne n1] at h3
        rw [List.getElem?_set_ne n2] at h4
        exact f.s.sep j l xs ys p h1 h2 h3 h4
  · rcases set_get h1 with ⟨rfl, e1⟩ | ⟨n1, h1⟩
    · rcases set_get h2 with ⟨_, e2⟩ | ⟨z, _⟩
      · exact (n xs p (Option.some.inj e1) (Option.some.inj e2)).1
      · exact absurd rfl z
    · rw [List.getElem?_set_ne n1] at h2
      exact f.own j xs p h1 h2
theorem newAt_no {v : V} {d : D} (h : d.isCell = false) : NewAt H0 env σ v d := fun xs p e _ => by subst e; cases h
theorem EvS.put {v : V} {d : D} (i : Nat) : EvS (dbl [i]) Z G H env σ Z G H (env.set i (some d)) (σ.set i (some v)) :=
  ⟨Evo.refl Z G H, fun j n _ => List.getElem?_set_ne fun z => n (by subst z; exact List.mem_cons_self), fun j n => List.getElem?_set_ne fun z => n (by subst z; exact List.mem_cons_of_mem _ List.mem_cons_self), fun _ _ _ _ _ _ _ => rfl⟩
/-- an own list is changed -/
theorem FS.chg {i : Nat} {xs xs' : List D} {p : Addr} {vs' : List V} (f : FS W Z0 G0 H0 Z G H env σ) (h1 : env[i]? = some (some (.cell xs))) (h2 : σ[i]? = some (some (.ref p))) (r : RelL W Z G H vs' xs') :
    FS W Z0 G0 H0 Z G (upd H p (.lst vs')) (env.set i (some (.cell xs'))) σ ∧ EvS [2 * i] Z G H env σ Z G (upd H p (.lst vs')) (env.set i (some (.cell xs'))) σ := by
  obtain ⟨vs, hp, gp, zp, rl⟩ := f.s.place h1 h2
  have ev : Evo Z G H Z G (upd H p (.lst vs')) := Evo.put zp
  have zl : ∀ q, Z q → ∃ xs, H q = some (.lst xs) := fun q z => (f.s.zo q z).1
  have oth : ∀ {j : Nat} {ys : List D} {q : Addr}, i ≠ j → env[j]? = some (some (.cell ys)) → σ[j]? = some (some (.ref q)) → q ≠ p := fun {j ys q} ne a1 a2 e => by
    subst e
    exact ne (f.s.sep i j xs ys q h1 a1 h2 a2)
  refine ⟨⟨⟨by rw [List.length_set]; exact f.s.len, f.s.gi.put f.s.zo zp, fun q z => ?_, fun j e h => ?_, fun j l ys zs q a1 a2 a3 a4 => ?_⟩, ext_put f.e (f.own i xs p h1 h2), f.z, f.z0, fun j ys q a1 a2 => ?_, f.zn⟩, ⟨ev, fun j n _ => ?_, fun _ _ => rfl, fun j ys q n _ a1 a2 => ?_⟩⟩
  · refine ⟨?_, (f.s.zo q z).2⟩
    by_cases e : q = p
    · subst e
      exact ⟨_, upd_same⟩
    · rw [upd_ne e]
      exact (f.s.zo q z).1
  · rcases set_get h with ⟨rfl, e1⟩ | ⟨ne, h⟩
    · cases e1
      exact ⟨_, h2, p, vs', rfl, upd_same, zp, r.evo zl ev⟩
    · obtain ⟨v, hv, rv⟩ := f.s.sl j e h
      refine ⟨v, hv, ?_⟩
      cases e with
      | cell ys =>
        obtain ⟨q, ws, rfl, hq, zq, rq⟩ := rv
        exact ⟨q, ws, rfl, by rw [upd_ne (oth ne h hv)]; exact hq, zq, rq.evo zl ev⟩
      | _ => exact Rel.evo zl ev rv
  · rcases set_get a1 with ⟨rfl, _⟩ | ⟨n1, a1⟩ <;> rcases set_get a2 with ⟨rfl, _⟩ | ⟨n2, a2⟩
    · rfl
    · exact f.s.sep _ l xs zs q h1 a2 a3 a4
    · exact f.s.sep j _ ys xs q a1 h1 a3 a4
    · exact f.s.sep j l ys zs q a1 a2 a3 a4
  · rcases set_get a1 with ⟨rfl, _⟩ | ⟨n1, a1⟩
    · exact f.own i xs q h1 a2
    · exact f.own j ys q a1 a2
  · have ne : i ≠ j := fun z => n (by subst z; exact List.mem_cons_self)
    rw [List.getElem?_set_ne ne]
  · have ne : i ≠ j := fun z => n (by subst z; exact List.mem_cons_self)
    rw [upd_ne (oth ne a1 a2)]
/-! ### what follows a statement -/
def RKn (W : Wd) (Z0 : Addr → Prop) (G0 : Gh) (H0 : Hp) (ts : List Nat) (Z : Addr → Prop) (G : Gh) (H : Hp) (env : Env) (σ : L2.St) (D1 : Ends) : R → Prop
  | .nx env' => ∀ Z' G' H' σ', EvS ts Z G H env σ Z' G' H' env' σ' → FS W Z0 G0 H0 Z' G' H' env' σ' → D1.nx σ' H'
  | .bk env' => ∀ Z' G' H' σ', EvS ts Z G H env σ Z' G' H' env' σ' → FS W Z0 G0 H0 Z' G' H' env' σ' → D1.bk σ' H'
  | .rt d env' => ∀ Z' G' H' σ' v, EvS ts Z G H env σ Z' G' H' env' σ' → FS W Z0 G0 H0 Z' G' H' env' σ' → RelR W Z0 H0 G' H' v d → D1.rt v H'
theorem RKn.step {r : R} (h : RKn W Z0 G0 H0 ts Z G H env σ D1 r) (e : EvS ts1 Z G H env σ Z' G' H' env' σ') (m1 : ∀ j ∈ ts1, j ∈ ts) (m2 : ∀ j ∈ ts2, j ∈ ts) : RKn W Z0 G0 H0 ts2 Z' G' H' env' σ' D1 r := by
  cases r with
  | nx env2 => exact fun Z2 G2 H2 σ2 e2 f2 => h Z2 G2 H2 σ2 ((e.mono m1).trans (e2.mono m2)) f2
  | bk env2 => exact fun Z2 G2 H2 σ2 e2 f2 => h Z2 G2 H2 σ2 ((e.mono m1).trans (e2.mono m2)) f2
  | rt d env2 => exact fun Z2 G2 H2 σ2 v e2 f2 => h Z2 G2 H2 σ2 v ((e.mono m1).trans (e2.mono m2)) f2
def rdS (W : Wd) (F : Fns) (m : S) : TS := fun D1 σ H => ∃ Z0 G0 H0 Z G env, FS W Z0 G0 H0 Z G H env σ ∧ (exec F m env).wp (RKn W Z0 G0 H0 m.touch Z G H env σ D1)
theorem PS.imp {st : Stmt} {t t' : TS} (h : PS X st t) (i : ∀ D1 σ H, t' D1 σ H → t D1 σ H) : PS X st t' := ⟨fun pins s σ H D1 I q => h.run pins s σ H D1 I (i D1 σ H q)⟩
theorem PSs.imp {st : List Stmt} {t t' : TS} (h : PSs X st t) (i : ∀ D1 σ H, t' D1 σ H → t D1 σ H) : PSs X st t' := ⟨fun pins s σ H D1 I q => h.run pins s σ H D1 I (i D1 σ H q)⟩
theorem FS.nx (f : FS W Z0 G0 H0 Z G H env σ) (h : RKn W Z0 G0 H0 ts Z G H env σ D1 (.nx env)) : D1.nx σ H := h Z G H σ ((EvS.refl f.s).mono fun _ z => by cases z) f
theorem s_nil : PSs X [] (rdS W F .nil) := PSs.imp pss_nil fun D1 σ H q => by
  obtain ⟨Z0, G0, H0, Z, G, env, f, w⟩ := q
  exact f.nx w
theorem s_cons {a as : S} {st : Stmt} {sts : List Stmt} (h1 : PS X st (rdS W F a)) (h2 : PSs X sts (rdS W F as)) : PSs X (st :: sts) (rdS W F (.cons a as)) := by
  refine PSs.imp (pss_cons h1 h2) fun D1 σ H q => ?_
  obtain ⟨Z0, G0, H0, Z, G, env, f, w⟩ := q
  refine ⟨Z0, G0, H0, Z, G, env, f, T.wp_imp (T.wp_bind.mp w) fun r hr => ?_⟩
  cases r with
  | nx env1 => exact fun Z1 G1 H1 σ1 e1 f1 => ⟨Z0, G0, H0, Z1, G1, env1, f1, T.wp_imp hr fun r2 h2 => h2.step e1 (fun j z => List.mem_append_left _ z) fun j z => List.mem_append_right _ z⟩
  | bk env1 => exact fun Z1 G1 H1 σ1 e1 f1 => (show RKn W Z0 G0 H0 _ Z G H env σ D1 (.bk env1) from hr) Z1 G1 H1 σ1 (e1.mono fun j z => List.mem_append_left _ z) f1
  | rt d env1 => exact fun Z1 G1 H1 σ1 v e1 f1 => (show RKn W Z0 G0 H0 _ Z G H env σ D1 (.rt d env1) from hr) Z1 G1 H1 σ1 v (e1.mono fun j z => List.mem_append_left _ z) f1
/-- an expression first -/
theorem FS.first {α : Type} {a : E} {f : D → T α} {q : α → Prop} {R : V → Hp → Prop} (fs : FS W Z0 G0 H0 Z G H env σ) (h : (ev F a env >>= f).wp q)
    (n : ∀ d G' H' v, Ext G H G' H' → FS W Z0 G0 H0 Z G' H' env σ → RelS W Z G' H' v d → (f d).wp q → R v H') : rdE W F a σ H R :=
  fs.s.first h fun d G' H' v e g _ r w => n d G' H' v e (fs.ext e g) r w
/-- a value of its own -/
theorem own_in {β : Type} {a : E} {f : D → T β} {q : β → Prop} {R : V → Hp → Prop} (s : SOk W Z G H env σ) (h : (ev F a env >>= fun d => own a d >>= f).wp q)
    (n : ∀ d Z' G' H' v, Grow Z G H Z' G' H' → SOk W Z' G' H' env σ → RelS W Z' G' H' v d → (∀ xs p, d = .cell xs → v = .ref p → H p = none) → (f d).wp q → R v H') : rdE W F a σ H R := by
  refine ⟨Z, G, env, s, T.wp_imp (T.wp_bind.mp h) fun d hd => ?_⟩
  have plain : ∀ {d : D}, d.isCell = false → (chkC d >>= f).wp q → RQ W Z G H R d := fun {d} hc hd G' H' v e g r => by
    refine n d Z G' H' v (.ext e) (s.ext e g) r (fun xs p z => by subst z; cases hc) ?_
    cases d with
    | cell xs => cases hc
    | _ => exact hd
  unfold own at hd
  by_cases hf : a.fresh = true
  · rw [if_pos hf] at hd
    rw [hf]
    cases d with
    | cell xs => exact hd.elim
    | lst xs =>
      intro G' H' vs p e g hp h' gp rl
      exact n (.cell xs) (fun q => Z q ∨ q = p) G' H' (.ref p) ⟨e, fun q z => .inl z, fun q z => z.imp id fun z => by rw [z]; exact hp⟩ (s.grow hp e g h' gp) ⟨p, vs, rfl, h', .inr rfl, rl⟩ (fun _ p' _ z => by cases z; exact hp) hd
    | _ => exact s.kx (plain rfl hd)
  · rw [if_neg hf] at hd
    have hf' : a.fresh = false := by cases e : a.fresh <;> first | rfl | exact absurd e hf
    rw [hf']
    cases d with
    | cell xs => exact hd.elim
    | _ => exact plain rfl hd
end
end Fm

/-! FmP: statements. -/
namespace Fm
open PySem PySem.Spec PyProof.Rows L2
section
variable {W : Wd} {F : Fns} {k : Kn} {sc : Scope} {X : Cx}
variable {Z0 : Addr → Prop} {G0 : Gh} {H0 : Hp}
variable {Z Z' Z2 : Addr → Prop} {G G' G2 : Gh} {H H' H2 : Hp} {env env' env2 : Env} {σ σ' σ2 : L2.St} {ts ts1 ts2 : List Nat} {D1 : Ends}
structure CnS (W : Wd) (F : Fns) (k : Kn) (sc : Scope) (X : Cx) : Prop where
  c : Cn W F k sc X
  xe : X.xe = fun _ _ => False
  fn : X.fn = fun _ => true
  kind : sc.kind = .function
theorem cellAt_ok {i : Nat} (h : cellAt env i = true) : ∃ xs, env[i]? = some (some (.cell xs)) := by
  unfold cellAt at h
  split at h
  · exact ⟨_, by assumption⟩
  · cases h
theorem Rel.nocell {v : V} {d : D} (r : Rel W Z G H v d) : d.isCell = false := by
  cases d with
  | cell xs => cases r
  | _ => rfl
theorem s_ret {m : E} {e : Expr} {pos : Pos} (ha : PE X e (rdE W F m)) : PS X (.Return (some e) pos) (rdS W F (.ret m)) := by
  refine PS.imp (ps_ret ha) fun D1 σ H q => ?_
  obtain ⟨Z0, G0, H0, Z, G, env, f, w⟩ := q
  refine ⟨Z, G, env, f.s, T.wp_imp (T.wp_bind.mp w) fun d hd => ?_⟩
  have fin : ∀ {d : D}, RKn W Z0 G0 H0 [] Z G H env σ D1 (R.rt d env) → ∀ G' H' v, Ext G H G' H' → GInv W G' H' → RelR W Z0 H0 G' H' v d → D1.rt v H' := fun {d} hd G' H' v e g r => hd Z G' H' σ v (EvS.grow f.s (.ext e)) (f.ext e g) r
  unfold retT at hd
  by_cases hf : m.fresh = true
  · rw [if_pos hf] at hd
    rw [hf]
    cases d with
    | cell xs => exact hd.elim
    | lst xs =>
      exact fun G' H' vs p e g n1 n2 n3 n4 => fin (d := .cell xs) hd G' H' _ e g ⟨p, vs, rfl, f.e.none n1 f.s.gi, n2, n3, n4.anti fun q z => z.imp (f.z q) id⟩
    | _ => exact fun G' H' v e g r => fin hd G' H' v e g (Rel.anti f.z r).rr
  · rw [if_neg hf] at hd
    have hf' : m.fresh = false := by cases e : m.fresh <;> first | rfl | exact absurd e hf
    rw [hf']
    refine KX.walk f.s fun G' H' v e g r hc => fin hd G' H' v e g ?_
    cases d with
    | cell xs =>
      obtain ⟨p, vs, rfl, h1, z, rl⟩ := r
      obtain ⟨i, hi, hcell, hσ⟩ := hc xs p rfl rfl
      obtain ⟨ys, hys⟩ := cellAt_ok hcell
      obtain ⟨ws, hp, gp, _⟩ := f.s.place hys hσ
      exact ⟨p, vs, rfl, f.own i ys p hys hσ, h1, (e.ob _ _ hp gp).2, rl.anti fun q zq => zq.elim (f.z q) fun zq => by rw [zq]; exact z⟩
    | _ => exact Rel.anti f.z r
theorem s_expr {m : E} {e : Expr} {pos : Pos} (hs : ∀ l env, swapsWith e none l env = pure false) (ha : PE X e (rdE W F m)) : PS X (.Expr e pos) (rdS W F (.expr m)) := by
  refine PS.imp (ps_expr ha (hs _ _)) fun D1 σ H q => ?_
  obtain ⟨Z0, G0, H0, Z, G, env, f, w⟩ := q
  refine f.first (show (ev F m env >>= fun _ => T.ret (R.nx env)).wp _ from w) fun d G1 H1 v e1 f1 r1 w1 => ?_
  exact f1.nx (RKn.step (ts2 := []) (show RKn W Z0 G0 H0 _ Z G H env σ D1 (R.nx env) from w1) (EvS.grow f.s (.ext e1)) (fun _ z => by cases z) fun _ z => by cases z)
theorem FS.firstT {β : Type} {a : E} {f : Bool → T β} {q : β → Prop} {R : Bool → Hp → Prop} (fs : FS W Z0 G0 H0 Z G H env σ) (h : (ev F a env >>= fun x => asB x >>= f).wp q)
    (n : ∀ b G' H', Ext G H G' H' → FS W Z0 G0 H0 Z G' H' env σ → (f b).wp q → R b H') : rdT W F a σ H R :=
  fs.s.firstT h fun b G' H' e g _ w => n b G' H' e (fs.ext e g) w
theorem s_ite {m : E} {a b : S} {e : Expr} {sa sb : List Stmt} {pos : Pos} (hc : PT X e (rdT W F m)) (ha : PSs X sa (rdS W F a)) (hb : PSs X sb (rdS W F b)) : PS X (.If e sa sb pos) (rdS W F (.ite m a b)) := by
  refine PS.imp (ps_if hc ha hb) fun D1 σ H q => ?_
  obtain ⟨Z0, G0, H0, Z, G, env, f, w⟩ := q
  refine f.firstT (show (ev F m env >>= fun x => asB x >>= fun k => if k = true then exec F a env else exec F b env).wp (RKn W Z0 G0 H0 (a.touch ++ b.touch) Z G H env σ D1) from w) fun kk G1 H1 e1 f1 w1 => ?_
  cases kk with
  | true =>
    rw [if_pos rfl] at w1 ⊢
    exact ⟨Z0, G0, H0, Z, G1, env, f1, T.wp_imp w1 fun r hr => hr.step (EvS.grow f.s (.ext e1)) (fun _ z => by cases z) fun j z => List.mem_append_left _ z⟩
  | false =>
    rw [if_neg Bool.false_ne_true] at w1 ⊢
    exact ⟨Z0, G0, H0, Z, G1, env, f1, T.wp_imp w1 fun r hr => hr.step (EvS.grow f.s (.ext e1)) (fun _ z => by cases z) fun j z => List.mem_append_right _ z⟩
/-! ### name = value -/
theorem set_in {i : Nat} {m : E} (q : rdS W F (.set (.one i) m) D1 σ H) : tAsg (rdE W F m) (gName i) D1 σ H := by
  obtain ⟨Z0, G0, H0, Z, G, env, f, w⟩ := q
  refine own_in f.s (show (ev F m env >>= fun d => own m d >>= fun d => T.ret (R.nx (env.set i (some d)))).wp _ from w) fun d Z1 G1 H1 v g1 s1 r1 n1 w1 => ?_
  have f1 := f.grow g1 s1
  have nw : NewAt H0 env σ v d := fun xs p e1 e2 => by
    have hp := n1 xs p e1 e2
    refine ⟨f.e.none hp f.s.gi, fun j ys h1 h2 => ?_⟩
    obtain ⟨vs, h, _⟩ := f.s.place h1 h2
    rw [hp] at h
    cases h
  exact (show RKn W Z0 G0 H0 (dbl [i]) Z G H env σ D1 (R.nx (env.set i (some d))) from w1) Z1 G1 H1 _ (((EvS.grow f.s g1).mono fun _ z => by cases z).trans (EvS.put i)) (f1.put r1 nw i)
theorem setl_in {i : Nat} {m : E} (q : rdS W F (.setl i m) D1 σ H) : tAsg (rdE W F m) (gName i) D1 σ H := by
  obtain ⟨Z0, G0, H0, Z, G, env, f, w⟩ := q
  refine f.first (show (ev F m env >>= fun d => chkC d >>= fun d => T.ret (R.nx (env.set i (some d)))).wp (RKn W Z0 G0 H0 (dbl [i]) Z G H env σ D1) from w) fun d G1 H1 v e1 f1 r1 w1 => ?_
  have hc : d.isCell = false := by
    cases d with
    | cell xs => exact w1.elim
    | _ => rfl
  have w2 : (T.ret (R.nx (env.set i (some d)))).wp (RKn W Z0 G0 H0 (dbl [i]) Z G H env σ D1) := by
    cases d with
    | cell xs => cases hc
    | _ => exact w1
  exact (show RKn W Z0 G0 H0 (dbl [i]) Z G H env σ D1 (R.nx (env.set i (some d))) from w2) Z G1 H1 _ (((EvS.grow f.s (.ext e1)).mono fun _ z => by cases z).trans (EvS.put i)) (f1.put r1 (newAt_no hc) i)
/-! ### targets -/
theorem dbl_hd {i j : Nat} {is : List Nat} (z : j ∈ dbl [i]) : j ∈ dbl (i :: is) := by
  rcases List.mem_cons.mp z with e | z
  · rw [e]
    exact List.mem_cons_self
  · rcases List.mem_cons.mp z with e | z
    · rw [e]
      exact List.mem_cons_of_mem _ List.mem_cons_self
    · cases z
theorem gs_inF {Q : L2.St → Hp → Prop} {q : Env → Prop} : ∀ {is : List Nat} {vs : List V} {ds : List D} {env : Env} {σ : L2.St}, FS W Z0 G0 H0 Z G H env σ → RelL W Z G H vs ds → (setAll is ds env).wp q →
    (∀ env' σ', FS W Z0 G0 H0 Z G H env' σ' → EvS (dbl is) Z G H env σ Z G H env' σ' → q env' → Q σ' H) → is.length = vs.length ∧ gsTg is vs σ H Q
  | [], _, _, env, σ, f, .nil, w, n => ⟨rfl, rfl, n env σ f (EvS.refl f.s) w⟩
  | [], _, _, _, _, _, .cons _ _, w, _ => w.elim
  | _ :: _, _, _, _, _, _, .nil, w, _ => w.elim
  | i :: is, _, _, env, σ, f, .cons (v := v) (vs := vs) (d := d) (ds := ds) r t, w, n => by
    obtain ⟨h1, h2⟩ := gs_inF (Q := Q) (q := q) (is := is) (f.put r.s (newAt_no r.nocell) i) t w fun env' σ' f' ev hq =>
      n env' σ' f' (((EvS.put i).mono fun j z => dbl_hd z).trans (ev.mono fun j z => List.mem_cons_of_mem _ (List.mem_cons_of_mem _ z))) hq
    exact ⟨by rw [List.length_cons, List.length_cons, h1], v, vs, rfl, h2⟩
theorem tg_inF {Q : L2.St → Hp → Prop} {q : Env → Prop} {tg : Tg} {v : V} {d : D} (f : FS W Z0 G0 H0 Z G H env σ) (r : Rel W Z G H v d) (w : (bindTg tg d env).wp q)
    (n : ∀ env' σ', FS W Z0 G0 H0 Z G H env' σ' → EvS (dbl tg.is) Z G H env σ Z G H env' σ' → q env' → Q σ' H) : gTg W.K tg v σ H Q := by
  cases tg with
  | one i => exact n _ _ (f.put r.s (newAt_no r.nocell) i) (EvS.put i) w
  | many is =>
    cases d with
    | tup xs =>
      cases r with
      | tup h1 g rl =>
        obtain ⟨e, q'⟩ := gs_inF f rl w n
        exact ⟨_, _, rfl, .of h1, e.symm, q'⟩
    | _ => exact w.elim
theorem bindTg_nocell {tg : Tg} {d : D} {is : List Nat} (h : (bindTg (.many is) d env).wp (fun _ => True)) : d.isCell = false := by
  cases d with
  | cell xs => exact h.elim
  | _ => rfl
theorem many_in {is : List Nat} {m : E} (q : rdS W F (.set (.many is) m) D1 σ H) : tAsg (rdE W F m) (gTg W.K (.many is)) D1 σ H := by
  obtain ⟨Z0, G0, H0, Z, G, env, f, w⟩ := q
  refine f.first (show (ev F m env >>= fun d => bindTg (.many is) d env >>= fun env2 => T.ret (R.nx env2)).wp _ from w) fun d G1 H1 v e1 f1 r1 w1 => ?_
  have w2 := T.wp_bind.mp w1
  have r1' : Rel W Z G1 H1 v d := r1.r (bindTg_nocell (tg := .many is) (T.wp_imp w2 fun _ _ => trivial))
  exact tg_inF f1 r1' w2 fun env' σ' f' ev hq => (show RKn W Z0 G0 H0 (dbl is) Z G H env σ D1 (R.nx env') from hq) Z G1 H1 σ' (((EvS.grow f.s (.ext e1)).mono fun _ z => by cases z).trans ev) f'
/-! ### for -/
theorem for_in {tg : Tg} {it : E} {b : S} (q : rdS W F (.for_ tg it b) D1 σ H) : tFor (rdI W F it) (gTg W.K tg) (rdS W F b) D1 σ H := by
  obtain ⟨Z0, G0, H0, Z, G, env, f, w⟩ := q
  have w0 : ((ev F it env >>= itsT) >>= fun xs => if mayWalk env it (dbl tg.is ++ b.touch) = true then forT (fun env => exec F b env) tg xs env else T.bad).wp (RKn W Z0 G0 H0 (dbl tg.is ++ b.touch) Z G H env σ D1) := by
    rw [T.bind_assoc]
    exact w
  refine ⟨Z, G, env, f.s, T.wp_imp (T.wp_bind.mp w0) fun ds hd G1 H1 J ks sh e1 g1 wk hks => ?_⟩
  obtain ⟨hm, hd⟩ := wp_if hd
  have f1 := f.ext e1 g1
  have hlen := Paired.len wk.rel
  have zl1 : ∀ p, Z p → ∃ xs, H1 p = some (.lst xs) := fun p z => (f1.s.zo p z).1
  refine ⟨fun i m σ' H' => m = sh.length - i ∧ i ≤ sh.length ∧ ∃ Z' G' env', EvS (dbl tg.is ++ b.touch) Z G1 H1 env σ Z' G' H' env' σ' ∧ FS W Z0 G0 H0 Z' G' H' env' σ' ∧ (forT (fun env => exec F b env) tg (ds.drop i) env').wp (RKn W Z0 G0 H0 (dbl tg.is ++ b.touch) Z G1 H1 env σ D1),
    ⟨sh.length, by rw [Nat.sub_zero], Nat.zero_le _, Z, G1, env, (EvS.refl f1.s).mono (fun _ z => by cases z), f1, T.wp_imp hd fun r hr => hr.step (EvS.grow f.s (.ext e1)) (fun _ z => by cases z) fun _ z => z⟩, ?_⟩
  rintro i m σ' H' ⟨rfl, hi, Z', G', env', ev', f', w'⟩
  have hk : ∀ q ∈ ks, H' q.1 = some q.2 := fun q hq => by
    obtain ⟨a1, a2⟩ := wk.at_ q hq
    rcases hks q hq with nz | ⟨j, hj, hcell, hσ⟩
    · exact (ev'.evo.ob _ _ a1 a2 nz).1
    · obtain ⟨ys, hys⟩ := cellAt_ok hcell
      unfold mayWalk at hm
      have z := List.all_eq_true.mp hm j hj
      rw [hcell, Bool.not_true, Bool.false_or, Bool.and_eq_true, Bool.not_eq_true', Bool.not_eq_true'] at z
      rw [ev'.cell j ys q.1 (fun h => absurd ((List.contains_iff_mem.mpr h).symm.trans z.1) (by decide)) (fun h => absurd ((List.contains_iff_mem.mpr h).symm.trans z.2) (by decide)) hys hσ, a1]
  by_cases hlt : i < sh.length
  · obtain ⟨c, d, hc, hdd, hdrop, rcd⟩ := Paired.get wk.rel hlt
    obtain ⟨go, yld⟩ := wk.go H' hk i c hc
    refine .inr ⟨go, fun σ'' H'' => i + 1 ≤ sh.length ∧ ∃ Z' G' env', EvS (dbl tg.is ++ b.touch) Z G1 H1 env σ Z' G' H'' env' σ'' ∧ FS W Z0 G0 H0 Z' G' H'' env' σ'' ∧ (forT (fun env => exec F b env) tg (ds.drop (i + 1)) env').wp (RKn W Z0 G0 H0 (dbl tg.is ++ b.touch) Z G1 H1 env σ D1),
      fun σ'' H'' hn => ⟨sh.length - (i + 1), by omega, rfl, hn⟩, fun x H2 hy => ?_⟩
    obtain ⟨e3, g3, rx⟩ := yld_ok f'.s.gi (rcd.evo zl1 ev'.evo) (yld x H2 hy)
    have f3 := f'.ext e3 g3
    have ev3 := ev'.trans ((EvS.grow f'.s (.ext e3)).mono fun _ z => by cases z)
    rw [hdrop] at w'
    have w2 : (bindTg tg d env' >>= fun env1 => exec F b env1 >>= fun o => match o with
      | .nx env2 => forT (fun env => exec F b env) tg (ds.drop (i + 1)) env2
      | .bk env2 => T.ret (R.nx env2)
      | .rt d e => T.ret (R.rt d e)).wp (RKn W Z0 G0 H0 (dbl tg.is ++ b.touch) Z G1 H1 env σ D1) := w'
    refine tg_inF f3 rx (T.wp_bind.mp w2) fun env1 σ1 f4 ev4 hq => ?_
    have ev5 := ev3.trans (ev4.mono fun j z => List.mem_append_left _ z)
    refine ⟨Z0, G0, H0, Z', G', env1, f4, T.wp_imp (T.wp_bind.mp hq) fun r hr => ?_⟩
    cases r with
    | nx env2 => exact fun Z6 G6 H6 σ6 e6 f6 => ⟨hlt, Z6, G6, env2, ev5.trans (e6.mono fun j z => List.mem_append_right _ z), f6, hr⟩
    | bk env2 => exact fun Z6 G6 H6 σ6 e6 f6 => (show RKn W Z0 G0 H0 (dbl tg.is ++ b.touch) Z G1 H1 env σ D1 (R.nx env2) from hr) Z6 G6 H6 σ6 (ev5.trans (e6.mono fun j z => List.mem_append_right _ z)) f6
    | rt d env2 => exact fun Z6 G6 H6 σ6 v e6 f6 => (show RKn W Z0 G0 H0 (dbl tg.is ++ b.touch) Z G1 H1 env σ D1 (R.rt d env2) from hr) Z6 G6 H6 σ6 v (ev5.trans (e6.mono fun j z => List.mem_append_right _ z)) f6
  · have ei : i = sh.length := by omega
    subst ei
    refine .inl ⟨wk.stop H' hk _ (Nat.le_refl _), ?_⟩
    rw [List.drop_eq_nil_of_le (by omega)] at w'
    exact (show RKn W Z0 G0 H0 (dbl tg.is ++ b.touch) Z G1 H1 env σ D1 (R.nx env') from w') Z' G' H' σ' ev' f'
theorem s_for (c : CnS W F k sc X) {tg : Tg} {it : E} {b : S} {t ie : Expr} {body : List Stmt} {pos : Pos} (ht : chkTg k sc (fun _ => true) tg t = true) (hi : PI X t ie (rdI W F it)) (hns : notSet ie = true) (hb : PSs X body (rdS W F b)) : PS X (.For t ie body [] pos) (rdS W F (.for_ tg it b)) :=
  PS.imp (ps_for (by rw [c.xe]; exact PassesOwn.never) c.c.calm hi (g_tg c.c (by rw [c.fn]; exact ht)) hb (set_ok hns)) fun _ _ _ q => for_in q
/-! ### while -/
theorem while_in {m : E} {b : S} (q : rdS W F (.while_ m b) D1 σ H) : tWhile (rdT W F m) (rdS W F b) D1 σ H := by
  obtain ⟨Z0, G0, H0, Z, G, env, f, w⟩ := q
  refine ⟨fun n σ' H' => ∃ Z' G' env', EvS b.touch Z G H env σ Z' G' H' env' σ' ∧ FS W Z0 G0 H0 Z' G' H' env' σ' ∧ (whileT (fun env => do let x ← ev F m env; asB x) (fun env => exec F b env) n env').wp (RKn W Z0 G0 H0 b.touch Z G H env σ D1),
    ⟨fuel, Z, G, env, (EvS.refl f.s).mono (fun _ z => by cases z), f, w⟩, ?_⟩
  rintro n σ' H' ⟨Z', G', env', ev', f', w'⟩
  cases n with
  | zero => exact w'.elim
  | succ n =>
    have w2 : ((ev F m env' >>= asB) >>= fun kk => if kk = true then (exec F b env' >>= fun o => match o with
      | .nx env2 => whileT (fun env => do let x ← ev F m env; asB x) (fun env => exec F b env) n env2
      | .bk env2 => T.ret (R.nx env2)
      | .rt d e => T.ret (R.rt d e)) else T.ret (R.nx env')).wp (RKn W Z0 G0 H0 b.touch Z G H env σ D1) := w'
    rw [T.bind_assoc] at w2
    refine f'.firstT w2 fun kk G1 H1 e1 f1 w3 => ?_
    have ev1 := ev'.trans ((EvS.grow f'.s (.ext e1)).mono fun _ z => by cases z)
    cases kk with
    | true =>
      rw [if_pos rfl] at w3 ⊢
      refine ⟨fun σ'' H'' => ∃ Z' G' env', EvS b.touch Z G H env σ Z' G' H'' env' σ'' ∧ FS W Z0 G0 H0 Z' G' H'' env' σ'' ∧ (whileT (fun env => do let x ← ev F m env; asB x) (fun env => exec F b env) n env').wp (RKn W Z0 G0 H0 b.touch Z G H env σ D1),
        fun σ'' H'' h => ⟨n, Nat.lt_succ_self n, h⟩, ⟨Z0, G0, H0, Z', G1, env', f1, T.wp_imp (T.wp_bind.mp w3) fun r hr => ?_⟩⟩
      cases r with
      | nx env2 => exact fun Z6 G6 H6 σ6 e6 f6 => ⟨Z6, G6, env2, ev1.trans e6, f6, hr⟩
      | bk env2 => exact fun Z6 G6 H6 σ6 e6 f6 => (show RKn W Z0 G0 H0 b.touch Z G H env σ D1 (R.nx env2) from hr) Z6 G6 H6 σ6 (ev1.trans e6) f6
      | rt d env2 => exact fun Z6 G6 H6 σ6 v e6 f6 => (show RKn W Z0 G0 H0 b.touch Z G H env σ D1 (R.rt d env2) from hr) Z6 G6 H6 σ6 v (ev1.trans e6) f6
    | false =>
      rw [if_neg Bool.false_ne_true] at w3 ⊢
      exact (show RKn W Z0 G0 H0 b.touch Z G H env σ D1 (R.nx env') from w3) Z' G1 H1 σ' ev1 f1
theorem s_while (c : CnS W F k sc X) {m : E} {b : S} {e : Expr} {body : List Stmt} {pos : Pos} (hc : PT X e (rdT W F m)) (hb : PSs X body (rdS W F b)) : PS X (.While e body [] pos) (rdS W F (.while_ m b)) :=
  PS.imp (ps_while (by rw [c.xe]; exact PassesOwn.never) hc hb) fun _ _ _ q => while_in q
/-! ### append, extend -/
theorem wp_match {α : Type} {o : Option (Option D)} {f : List D → T α} {q : α → Prop} (h : (match o with | some (some (.cell xs)) => f xs | _ => T.bad).wp q) : ∃ xs, o = some (some (.cell xs)) ∧ (f xs).wp q := by
  split at h
  · exact ⟨_, rfl, h⟩
  · exact h.elim
/-- a name's own list -/
theorem FS.cell {i : Nat} {xs : List D} {R : V → Hp → Prop} (f : FS W Z0 G0 H0 Z G H env σ) (h : env[i]? = some (some (.cell xs)))
    (n : ∀ p, σ[i]? = some (some (.ref p)) → ∀ G' H', Ext G H G' H' → FS W Z0 G0 H0 Z G' H' env σ → R (.ref p) H') : rdE W F (.var i) σ H R := by
  refine ⟨Z, G, env, f.s, ?_⟩
  show (getv env i).wp _
  unfold getv
  rw [h]
  obtain ⟨v, hv, p, vs, rfl, _⟩ := f.s.sl i _ h
  intro G' H' v' j e g hj he hv'
  have ej : j = i := List.mem_singleton.mp hj
  subst ej
  rw [hv] at hv'
  cases hv'
  exact n p hv G' H' e (f.ext e g)
theorem app_in {i : Nat} {m : E} (q : rdS W F (.app i m) D1 σ H) : tDrop (tBM W.K "list" rAppend (rdE W F (.var i)) (tCons (rdE W F m) tNil)) D1 σ H := by
  obtain ⟨Z0, G0, H0, Z, G, env, f, w⟩ := q
  obtain ⟨xs, hx, w1⟩ := wp_match (show (match env[i]? with | some (some (.cell xs)) => (ev F m env >>= fun d => chkC d >>= fun d => if xs.length < maxL then T.ret (R.nx (env.set i (some (.cell (xs ++ [d]))))) else T.bad) | _ => T.bad).wp (RKn W Z0 G0 H0 [2 * i] Z G H env σ D1) from w)
  refine f.cell hx fun p hp G1 H1 e1 f1 => ?_
  obtain ⟨vs, h1, g1, z1, rl⟩ := f1.s.place hx hp
  refine ⟨.inl ⟨rfl, vs, .of h1⟩, ?_⟩
  refine f1.first w1 fun d G2 H2 y e2 f2 r2 w2 => ?_
  have hc : d.isCell = false := by
    cases d with
    | cell xs => exact w2.elim
    | _ => rfl
  have w3 : (if xs.length < maxL then T.ret (R.nx (env.set i (some (.cell (xs ++ [d]))))) else T.bad).wp (RKn W Z0 G0 H0 [2 * i] Z G H env σ D1) := by
    cases d with
    | cell xs => cases hc
    | _ => exact w2
  obtain ⟨hl, w4⟩ := wp_if w3
  have h2 := (e2.ob _ _ h1 g1).1
  refine ⟨p, vs, y, rfl, rfl, h2, Nat.lt_of_lt_of_le (by rw [rl.length]; exact hl) line_max, ?_⟩
  obtain ⟨f3, ev3⟩ := f2.chg hx hp ((rl.ext e2).append (.cons (r2.r hc) .nil))
  exact (show RKn W Z0 G0 H0 [2 * i] Z G H env σ D1 (R.nx (env.set i (some (.cell (xs ++ [d]))))) from w4) Z G2 _ σ (((EvS.grow f.s (.ext (e1.trans e2))).mono fun _ z => by cases z).trans ev3) f3
theorem RelL.eraseIdx {Z : Addr → Prop} {G : Gh} {H : Hp} : ∀ {vs : List V} {ds : List D} (m : Nat), RelL W Z G H vs ds → RelL W Z G H (vs.eraseIdx m) (ds.eraseIdx m)
  | _, _, _, .nil => .nil
  | _, _, 0, .cons r t => t
  | _, _, m + 1, .cons r t => .cons r (RelL.eraseIdx m t)
theorem apop_in {i j : Nat} {m : E} (q : rdS W F (.apop i j m) D1 σ H) : tDrop (tBM W.K "list" rAppend (rdE W F (.var i)) (tCons (tBM W.K "list" rPopAt (rdE W F (.var j)) (tCons (rdE W F m) tNil)) tNil)) D1 σ H := by
  obtain ⟨Z0, G0, H0, Z, G, env, f, w⟩ := q
  obtain ⟨xs, hx, w0⟩ := wp_match (f := fun xs => (match env[j]? with
      | some (some (.cell ys)) => ev F m env >>= fun x => (match x with
        | .int n => (match (if 0 ≤ n ∧ i ≠ j then ys[n.toNat]? else none) with
          | some y => if xs.length < maxL ∧ n < 2 ^ 62 then .ret (.nx ((env.set j (some (.cell (ys.eraseIdx n.toNat)))).set i (some (.cell (xs ++ [y]))))) else .bad
          | none => .bad)
        | _ => .bad)
      | _ => .bad)) (q := RKn W Z0 G0 H0 [2 * i, 2 * j] Z G H env σ D1) w
  obtain ⟨ys, hy, w1⟩ := wp_match (f := fun ys => ev F m env >>= fun x => (match x with
        | .int n => (match (if 0 ≤ n ∧ i ≠ j then ys[n.toNat]? else none) with
          | some y => if xs.length < maxL ∧ n < 2 ^ 62 then .ret (.nx ((env.set j (some (.cell (ys.eraseIdx n.toNat)))).set i (some (.cell (xs ++ [y]))))) else .bad
          | none => .bad)
        | _ => .bad)) (q := RKn W Z0 G0 H0 [2 * i, 2 * j] Z G H env σ D1) w0
  refine f.cell hx fun p hp G1 H1 e1 f1 => ?_
  obtain ⟨vs, h1, g1, z1, rl⟩ := f1.s.place hx hp
  refine ⟨.inl ⟨rfl, vs, .of h1⟩, ?_⟩
  refine f1.cell hy fun p2 hp2 G2 H2 e2 f2 => ?_
  obtain ⟨us, h2, g2, z2, rl2⟩ := f2.s.place hy hp2
  refine ⟨.inl ⟨rfl, us, .of h2⟩, ?_⟩
  refine f2.first w1 fun d G3 H3 y0 e3 f3 r3 w2 => ?_
  cases d with
  | int n =>
    rw [r3.int]
    by_cases hn : 0 ≤ n ∧ i ≠ j
    · have w4 : (match ys[n.toNat]? with
          | some y => if xs.length < maxL ∧ n < 2 ^ 62 then .ret (.nx ((env.set j (some (.cell (ys.eraseIdx n.toNat)))).set i (some (.cell (xs ++ [y]))))) else .bad
          | none => .bad : T R).wp (RKn W Z0 G0 H0 [2 * i, 2 * j] Z G H env σ D1) := by
        have w3 : (match (if 0 ≤ n ∧ i ≠ j then ys[n.toNat]? else none) with
          | some y => if xs.length < maxL ∧ n < 2 ^ 62 then .ret (.nx ((env.set j (some (.cell (ys.eraseIdx n.toNat)))).set i (some (.cell (xs ++ [y]))))) else .bad
          | none => .bad : T R).wp (RKn W Z0 G0 H0 [2 * i, 2 * j] Z G H env σ D1) := w2
        rw [if_pos hn] at w3
        exact w3
      cases ey : ys[n.toNat]? with
      | none => rw [ey] at w4; exact w4.elim
      | some y =>
        rw [ey] at w4
        obtain ⟨⟨hl, hb⟩, w5⟩ := wp_if w4
        obtain ⟨us3, h3, g3, z3, rl3⟩ := f3.s.place hy hp2
        obtain ⟨v, hv, rv⟩ := rl3.getD ey
        have hlt : n.toNat < us3.length := by
          by_cases z : n.toNat < us3.length
          · exact z
          · rw [List.getElem?_eq_none (by omega)] at hv
            cases hv
        have hn1 := hn.1
        have b1 : -(2 ^ 63) ≤ n := by omega
        have b2 : n < 2 ^ 63 := by omega
        refine ⟨p2, us3, n, n.toNat, v, rfl, rfl, h3, b1, b2, ?_, hv, ?_⟩
        · unfold seqIndex?
          have h0 : ¬ n < 0 := by omega
          have hd : (decide (0 ≤ n) && decide (n < (us3.length : Int))) = true := by
            rw [Bool.and_eq_true, decide_eq_true_eq, decide_eq_true_eq]
            exact ⟨hn1, by omega⟩
          simp only [h0, if_false, hd, if_true]
        obtain ⟨f4, ev4⟩ := f3.chg hy hp2 (rl3.eraseIdx n.toNat)
        have hx4 : (env.set j (some (.cell (ys.eraseIdx n.toNat))))[i]? = some (some (.cell xs)) := by
          rw [List.getElem?_set_ne (Ne.symm hn.2)]
          exact hx
        obtain ⟨vs4, h4, g4, z4, rl4⟩ := f4.s.place hx4 hp
        have rv4 : Rel W Z G3 (upd H3 p2 (.lst (us3.eraseIdx n.toNat))) v y := rv.evo (fun q z => (f3.s.zo q z).1) (Evo.put z3)
        refine ⟨p, vs4, v, rfl, rfl, h4, Nat.lt_of_lt_of_le (by rw [rl4.length]; exact hl) line_max, ?_⟩
        obtain ⟨f5, ev5⟩ := f4.chg hx4 hp (rl4.append (.cons rv4 .nil))
        exact (show RKn W Z0 G0 H0 [2 * i, 2 * j] Z G H env σ D1 (R.nx ((env.set j (some (.cell (ys.eraseIdx n.toNat)))).set i (some (.cell (xs ++ [y]))))) from w5) Z G3 _ σ
          ((((EvS.grow f.s (.ext ((e1.trans e2).trans e3))).mono fun _ z => by cases z).trans (ev4.mono fun q z => by
            rw [List.mem_singleton.mp z]
            exact List.mem_cons_of_mem _ List.mem_cons_self)).trans (ev5.mono fun q z => by
            rw [List.mem_singleton.mp z]
            exact List.mem_cons_self)) f5
    · have w3 : (match (if 0 ≤ n ∧ i ≠ j then ys[n.toNat]? else none) with
          | some y => if xs.length < maxL ∧ n < 2 ^ 62 then .ret (.nx ((env.set j (some (.cell (ys.eraseIdx n.toNat)))).set i (some (.cell (xs ++ [y]))))) else .bad
          | none => .bad : T R).wp (RKn W Z0 G0 H0 [2 * i, 2 * j] Z G H env σ D1) := w2
      rw [if_neg hn] at w3
      exact w3.elim
  | _ => exact w2.elim
theorem ext_in {i : Nat} {m : E} (q : rdS W F (.ext i m) D1 σ H) : tDrop (tBM W.K "list" rExtend (rdE W F (.var i)) (tCons (rdE W F m) tNil)) D1 σ H := by
  obtain ⟨Z0, G0, H0, Z, G, env, f, w⟩ := q
  obtain ⟨xs, hx, w1⟩ := wp_match (f := fun xs => ev F m env >>= fun d => match d.asL with
      | some ys => if xs.length + ys.length ≤ maxL then T.ret (R.nx (env.set i (some (.cell (xs ++ ys))))) else T.bad
      | none => T.bad) (q := RKn W Z0 G0 H0 [2 * i] Z G H env σ D1) w
  refine f.cell hx fun p hp G1 H1 e1 f1 => ?_
  obtain ⟨vs, h1, g1, z1, rl⟩ := f1.s.place hx hp
  refine ⟨.inl ⟨rfl, vs, .of h1⟩, ?_⟩
  refine f1.first w1 fun d G2 H2 y e2 f2 r2 w2 => ?_
  cases ed : d.asL with
  | none => rw [ed] at w2; exact w2.elim
  | some ys =>
    rw [ed] at w2
    obtain ⟨hl, w4⟩ := wp_if w2
    obtain ⟨b, zs, rfl, hb, rlz⟩ := r2.list ed
    have h2 := (e2.ob _ _ h1 g1).1
    refine ⟨p, b, vs, zs, rfl, rfl, h2, hb, Nat.le_trans (by rw [rl.length, rlz.length]; exact hl) line_max, ?_⟩
    obtain ⟨f3, ev3⟩ := f2.chg hx hp ((rl.ext e2).append rlz)
    exact (show RKn W Z0 G0 H0 [2 * i] Z G H env σ D1 (R.nx (env.set i (some (.cell (xs ++ ys))))) from w4) Z G2 _ σ (((EvS.grow f.s (.ext (e1.trans e2))).mono fun _ z => by cases z).trans ev3) f3
theorem RelL.set {Z : Addr → Prop} {G : Gh} {H : Hp} : ∀ {vs : List V} {ds : List D} {v : V} {d : D} (m : Nat), RelL W Z G H vs ds → Rel W Z G H v d → RelL W Z G H (vs.set m v) (ds.set m d)
  | _, _, _, _, _, .nil, _ => .nil
  | _, _, _, _, 0, .cons r t, h => .cons h t
  | _, _, _, _, m + 1, .cons r t, h => .cons r (RelL.set m t h)
theorem seti_in {i : Nat} {j m : E} (q : rdS W F (.seti i j m) D1 σ H) : tAsg (rdE W F m) (gSub (rdE W F (.var i)) (rdE W F j) rSetL) D1 σ H := by
  obtain ⟨Z0, G0, H0, Z, G, env, f, w⟩ := q
  have w0 : (ev F m env >>= fun d => chkC d >>= fun d => match env[i]? with
    | some (some (.cell xs)) => (ev F j env >>= fun x => match x with
      | .int n => (match L2.ixN xs.length n with
        | some m => T.ret (R.nx (env.set i (some (.cell (xs.set m d)))))
        | none => T.bad)
      | _ => T.bad)
    | _ => T.bad).wp (RKn W Z0 G0 H0 [2 * i] Z G H env σ D1) := w
  refine f.first w0 fun d G1 H1 v e1 f1 r1 w1 => ?_
  have hc : d.isCell = false := by
    cases d with
    | cell xs => exact w1.elim
    | _ => rfl
  have w2 : (match env[i]? with
    | some (some (.cell xs)) => (ev F j env >>= fun x => match x with
      | .int n => (match L2.ixN xs.length n with
        | some m => T.ret (R.nx (env.set i (some (.cell (xs.set m d)))))
        | none => T.bad)
      | _ => T.bad)
    | _ => T.bad).wp (RKn W Z0 G0 H0 [2 * i] Z G H env σ D1) := by
    cases d with
    | cell xs => cases hc
    | _ => exact w1
  obtain ⟨xs, hx, w3⟩ := wp_match w2
  refine f1.cell hx fun p hp G2 H2 e2 f2 => ?_
  refine f2.first w3 fun x G3 H3 iv e3 f3 r3 w4 => ?_
  obtain ⟨vs, h1, g1, z1, rl⟩ := f3.s.place hx hp
  cases x with
  | int n =>
    rw [r3.int]
    have w5 : (match L2.ixN xs.length n with
        | some m => T.ret (R.nx (env.set i (some (.cell (xs.set m d)))))
        | none => T.bad).wp (RKn W Z0 G0 H0 [2 * i] Z G H env σ D1) := w4
    cases ei : L2.ixN xs.length n with
    | none => rw [ei] at w5; exact w5.elim
    | some mm =>
      rw [ei] at w5
      refine ⟨p, vs, n, mm, rfl, rfl, h1, by rw [rl.length]; exact ei, ?_⟩
      have rv : Rel W Z G3 H3 v d := ((r1.r hc).ext e2).ext e3
      obtain ⟨f4, ev4⟩ := f3.chg hx hp (rl.set mm rv)
      exact (show RKn W Z0 G0 H0 [2 * i] Z G H env σ D1 (R.nx (env.set i (some (.cell (xs.set mm d))))) from w5) Z G3 _ σ (((EvS.grow f.s (.ext ((e1.trans e2).trans e3))).mono fun _ z => by cases z).trans ev4) f4
  | _ => exact w4.elim
end
end Fm

/-! FmQ: several targets at once; the checker of statements. -/
namespace Fm
open PySem PySem.Spec PyProof.Rows L2
section
variable {W : Wd} {F : Fns} {k : Kn} {sc : Scope} {X : Cx}
variable {Z0 : Addr → Prop} {G0 : Gh} {H0 : Hp}
variable {Z Z' Z2 : Addr → Prop} {G G' G2 : Gh} {H H' H2 : Hp} {env env' env2 : Env} {σ σ' σ2 : L2.St} {ts ts1 ts2 : List Nat} {D1 : Ends}
inductive News (W : Wd) (Z : Addr → Prop) (G : Gh) (H : Hp) : (Addr → Prop) → List V → List D → Prop
  | nil {B : Addr → Prop} : News W Z G H B [] []
  | one {B : Addr → Prop} {v : V} {vs : List V} {d : D} {ds : List D} : Rel W Z G H v d → News W Z G H B vs ds → News W Z G H B (v :: vs) (d :: ds)
  | own {B : Addr → Prop} {p : Addr} {vs : List V} {xs : List D} {ds : List D} : ¬ B p → RelS W Z G H (.ref p) (.cell xs) → News W Z G H (fun q => B q ∨ q = p) vs ds → News W Z G H B (.ref p :: vs) (.cell xs :: ds)
theorem News.weak {B B2 : Addr → Prop} {vs : List V} {ds : List D} (h : News W Z G H B2 vs ds) : (∀ q, B q → B2 q) → News W Z G H B vs ds := by
  induction h generalizing B with
  | nil => exact fun _ => .nil
  | one r _ ih => exact fun m => .one r (ih m)
  | own n r _ ih => exact fun m => .own (fun z => n (m _ z)) r (ih fun q z => z.imp (m q) id)
theorem RelS.grow {v : V} {d : D} (s : SOk W Z G H env σ) (g : Grow Z G H Z' G' H') (r : RelS W Z G H v d) : RelS W Z' G' H' v d := by
  cases d with
  | cell xs =>
    obtain ⟨p, vs, rfl, h, z, rl⟩ := r
    exact ⟨p, vs, rfl, (g.e.ob _ _ h (s.zo p z).2).1, g.z p z, rl.evo (fun p z => (s.zo p z).1) g.evo⟩
  | _ => exact Rel.evo (fun p z => (s.zo p z).1) g.evo r
def rdAo (W : Wd) (F : Fns) (m : E) : TA := fun σ H Q => ∃ Z G env, SOk W Z G H env σ ∧ (evo F m env).wp (fun ds => ∀ Z' G' H' vs, Grow Z G H Z' G' H' → SOk W Z' G' H' env σ → News W Z' G' H' (fun q => H q ≠ none) vs ds → Q vs H')
theorem o_nil : PA X [] (rdAo W F .nil) := PA.imp pa_nil fun σ H Q q => by
  obtain ⟨Z, G, env, s, w⟩ := q
  exact (show ∀ Z' G' H' vs, Grow Z G H Z' G' H' → SOk W Z' G' H' env σ → News W Z' G' H' (fun q => H q ≠ none) vs [] → Q vs H' from w) Z G H [] (Grow.refl Z G H) s .nil
theorem o_cons {a as : E} {e : Expr} {es : List Expr} (hs : notStar e = true) (ha : PE X e (rdE W F a)) (has : PA X es (rdAo W F as)) : PA X (e :: es) (rdAo W F (.cons a as)) := by
  refine PA.imp (pa_cons ha has (star_ok hs es)) fun σ H Q q => ?_
  obtain ⟨Z, G, env, s, w⟩ := q
  refine own_in s (show (ev F a env >>= fun d => own a d >>= fun x => evo F as env >>= fun r => T.ret (x :: r)).wp _ from w) fun d Z1 G1 H1 v g1 s1 r1 n1 w1 => ?_
  refine ⟨Z1, G1, env, s1, T.wp_imp (T.wp_bind.mp w1) fun ds hd Z2 G2 H2 vs g2 s2 nw => ?_⟩
  refine (show ∀ Z' G' H' vs, Grow Z G H Z' G' H' → SOk W Z' G' H' env σ → News W Z' G' H' (fun q => H q ≠ none) vs (d :: ds) → Q vs H' from hd) Z2 G2 H2 (v :: vs) (g1.trans g2 s1.gi) s2 ?_
  have up : ∀ q, H q ≠ none → H1 q ≠ none := fun q n z => n (g1.e.none z s1.gi)
  have r2 := r1.grow s1 g2
  cases d with
  | cell xs =>
    obtain ⟨p, ws, rfl, h1, z1, rl⟩ := r1
    refine .own (fun z => z (n1 xs p rfl rfl)) r2 (nw.weak fun q z => ?_)
    rcases z with z | z
    · exact up q z
    · rw [z, h1]
      exact fun z => by cases z
  | _ => exact .one r2 (nw.weak up)
theorem gs_inO {Q : L2.St → Hp → Prop} : ∀ {is : List Nat} {vs : List V} {ds : List D} {B : Addr → Prop} {env : Env} {σ : L2.St}, FS W Z0 G0 H0 Z G H env σ → News W Z G H B vs ds → (∀ (j : Nat) ys p, env[j]? = some (some (.cell ys)) → σ[j]? = some (some (.ref p)) → B p) → (∀ p, H0 p ≠ none → B p) →
    is.length = vs.length → (∀ env' σ', FS W Z0 G0 H0 Z G H env' σ' → EvS (dbl is) Z G H env σ Z G H env' σ' → env' = setAllO is ds env → Q σ' H) → gsTg is vs σ H Q
  | [], _, _, _, env, σ, f, .nil, hB, h0, hl, n => ⟨rfl, n env σ f (EvS.refl f.s) rfl⟩
  | [], _, _, _, _, _, _, .one _ _, _, _, hl, _ => by cases hl
  | [], _, _, _, _, _, _, .own _ _ _, _, _, hl, _ => by cases hl
  | _ :: _, _, _, _, _, _, _, .nil, _, _, hl, _ => by cases hl
  | i :: is, _, _, B, env, σ, f, .one (v := v) (vs := vs) (d := d) (ds := ds) r t, hB, h0, hl, n => by
    refine ⟨v, vs, rfl, gs_inO (Q := Q) (is := is) (f.put r.s (newAt_no r.nocell) i) t (fun j ys p h1 h2 => ?_) h0 (Nat.succ.inj hl) fun env' σ' f' ev hq =>
      n env' σ' f' (((EvS.put i).mono fun j z => dbl_hd z).trans (ev.mono fun j z => List.mem_cons_of_mem _ (List.mem_cons_of_mem _ z))) hq⟩
    rcases set_get h1 with ⟨rfl, e1⟩ | ⟨ne, h1⟩
    · have c := r.nocell
      rw [Option.some.inj e1] at c
      cases c
    · rw [List.getElem?_set_ne ne] at h2
      exact hB j ys p h1 h2
  | i :: is, _, _, B, env, σ, f, .own (p := p) (vs := vs) (xs := xs) (ds := ds) np r t, hB, h0, hl, n => by
    have nw : NewAt H0 env σ (.ref p) (.cell xs) := fun ys q e1 e2 => by
      cases e2
      refine ⟨?_, fun j zs h1 h2 => np (hB j zs p h1 h2)⟩
      cases e : H0 p with
      | none => rfl
      | some o => exact absurd (h0 p (by rw [e]; exact fun z => by cases z)) np
    refine ⟨.ref p, vs, rfl, gs_inO (Q := Q) (is := is) (f.put r nw i) t (fun j ys q h1 h2 => ?_) (fun q z => .inl (h0 q z)) (Nat.succ.inj hl) fun env' σ' f' ev hq =>
      n env' σ' f' (((EvS.put i).mono fun j z => dbl_hd z).trans (ev.mono fun j z => List.mem_cons_of_mem _ (List.mem_cons_of_mem _ z))) hq⟩
    rcases set_get h1 with ⟨rfl, e1⟩ | ⟨ne, h1⟩
    · rcases set_get h2 with ⟨_, e2⟩ | ⟨z, _⟩
      · cases e2
        exact .inr rfl
      · exact absurd rfl z
    · rw [List.getElem?_set_ne ne] at h2
      exact .inl (hB j ys q h1 h2)
theorem News.length {B : Addr → Prop} {vs : List V} {ds : List D} (h : News W Z G H B vs ds) : vs.length = ds.length := by
  induction h with
  | nil => rfl
  | one _ _ ih => rw [List.length_cons, List.length_cons, ih]
  | own _ _ _ ih => rw [List.length_cons, List.length_cons, ih]
theorem News.ext {B : Addr → Prop} {vs : List V} {ds : List D} (zo : ZOk Z G H) (e : Ext G H G' H') (h : News W Z G H B vs ds) : News W Z G' H' B vs ds := by
  induction h with
  | nil => exact .nil
  | one r _ ih => exact .one (r.ext e) ih
  | own a r _ ih => exact .own a (r.ext e zo) ih
def E.elen : E → Nat
  | .cons _ as => as.elen + 1
  | _ => 0
theorem evo_len : ∀ {m : E} {env : Env} {q : List D → Prop}, (evo F m env).wp q → (evo F m env).wp fun ds => ds.length = m.elen ∧ q ds
  | .nil, env, q, h => ⟨rfl, h⟩
  | .cons a as, env, q, h => by
    have h' := T.wp_bind.mp (show (ev F a env >>= fun d => own a d >>= fun x => evo F as env >>= fun r => T.ret (x :: r)).wp q from h)
    refine T.wp_bind.mpr (T.wp_imp h' fun d hd => T.wp_bind.mpr (T.wp_imp (T.wp_bind.mp hd) fun x hx => T.wp_bind.mpr (T.wp_imp (evo_len (T.wp_bind.mp hx)) fun r hr => ?_)))
    exact ⟨by rw [List.length_cons, hr.1]; rfl, hr.2⟩
  | .var _, _, _, h => h.elim
  | .non, _, _, h => h.elim
  | .bl _, _, _, h => h.elim
  | .int _, _, _, h => h.elim
  | .str _, _, _, h => h.elim
  | .tup _, _, _, h => h.elim
  | .lst _, _, _, h => h.elim
  | .op _ _ _, _, _, h => h.elim
  | .chain _ _ _ _ _, _, _, h => h.elim
  | .neg _, _, _, h => h.elim
  | .nt _, _, _, h => h.elim
  | .and _ _, _, _, h => h.elim
  | .or _ _, _, _, h => h.elim
  | .ite _ _ _, _, _, h => h.elim
  | .call _ _, _, _, h => h.elim
  | .blt _ _, _, _, h => h.elim
  | .isi _ _, _, _, h => h.elim
  | .attr _ _, _, _, h => h.elim
  | .ix _ _, _, _, h => h.elim
  | .sl _ _ _, _, _, h => h.elim
  | .rev _, _, _, h => h.elim
  | .lc _ _ _ _ _, _, _, h => h.elim
  | .rng1 _, _, _, h => h.elim
  | .rng2 _ _, _, _, h => h.elim
  | .zip _ _, _, _, h => h.elim
  | .enum _, _, _, h => h.elim
  | .gint _ _, _, _, h => h.elim
  | .emp, _, _, h => h.elim
/-- the arguments, then the stores -/
theorem par_args {is : List Nat} {m : E} {Q : List V → Hp → Prop} (hl0 : is.length = m.elen) (q : rdS W F (.par is m) D1 σ H)
    (n : ∀ vs H', is.length = vs.length → (∀ H2, (H2 = H' ∨ ∃ t o, H' t = none ∧ H2 = upd H' t o) → gsTg is vs σ H2 D1.nx) → Q vs H') : rdAo W F m σ H Q := by
  obtain ⟨Z0, G0, H0, Z, G, env, f, w⟩ := q
  refine ⟨Z, G, env, f.s, T.wp_imp (evo_len (T.wp_bind.mp (show (evo F m env >>= fun ds => T.ret (R.nx (setAllO is ds env))).wp (RKn W Z0 G0 H0 (dbl is) Z G H env σ D1) from w))) fun ds hd0 Z' G' H' vs g s' nw => ?_⟩
  obtain ⟨hdl, hd⟩ := hd0
  have hl : is.length = vs.length := by rw [nw.length, hdl, hl0]
  refine n vs H' hl fun H2 h2 => ?_
  have e2 : Ext G' H' G' H2 := by
    rcases h2 with rfl | ⟨t, o, ht, rfl⟩
    · exact Ext.refl _ _
    · exact Ext.new ht
  have g2 : GInv W G' H2 := by
    rcases h2 with rfl | ⟨t, o, ht, rfl⟩
    · exact s'.gi
    · exact s'.gi.new ht
  have f1 := (f.grow g s').ext e2 g2
  refine gs_inO f1 (nw.ext s'.zo e2) (fun j ys p h1 h2 => ?_) (fun p z z2 => z (f.e.none z2 f.s.gi)) hl fun env' σ' f' ev he => ?_
  · obtain ⟨ws, hp, _⟩ := f.s.place h1 h2
    rw [hp]
    exact fun z => by cases z
  · subst he
    exact (show RKn W Z0 G0 H0 (dbl is) Z G H env σ D1 (R.nx (setAllO is ds env)) from hd) Z' G' H2 σ' ((((EvS.grow f.s g).mono fun _ z => by cases z).trans ((EvS.grow s' (.ext e2)).mono fun _ z => by cases z)).trans ev) f'
/-! ### the two ways of a, b = x, y -/
def isStar : Expr → Bool
  | .Starred _ _ => true | _ => false
def swNames (sc : Scope) (line : Nat) (ts : List Expr) : List Str := ts.filterMap fun
    | .Name id pos => if sc.names.lookup id == some .local && pos.line == line then some id else none
    | _ => none
def swS (sc : Scope) (ts vs : List Expr) : Option (Option (List Str)) :=
  if !(ts.length == 2 || ts.length == 3) || vs.length != ts.length then some none
  else if vs.any isStar then some none
  else if (swNames sc ((ts.head?.map (·.pos.line)).getD 0) ts).length != ts.length || (swNames sc ((ts.head?.map (·.pos.line)).getD 0) ts).eraseDups.length != (swNames sc ((ts.head?.map (·.pos.line)).getD 0) ts).length then some none
  else if vs.all (foldedForSure 8) then some none
  else if vs.all (constantsAlone 8) then none
  else some (some (swNames sc ((ts.head?.map (·.pos.line)).getD 0) ts))
theorem swS_ok {env : PySem.Env} {ts vs : List Expr} {k1 k2 : Nat} {p1 p2 : Pos} {o : Option (List Str)} (hk : env.scope.kind = .function) (h : swS env.scope ts vs = some o) : swappedStores [.Tuple ts k1 p1] (.Tuple vs k2 p2) env = pure o := by
  have hb : env.blockKind = .function := by unfold Env.blockKind; rw [hk]; rfl
  unfold swS at h
  unfold swappedStores
  simp only [hb]
  by_cases c1 : (!(ts.length == 2 || ts.length == 3) || vs.length != ts.length) = true
  · rw [if_pos c1] at h
    cases h
    exact if_pos (by rw [c1]; rfl)
  rw [if_neg c1] at h
  refine Eq.trans (if_neg (by
    rw [Bool.not_eq_true] at c1
    rw [c1]
    decide)) ?_
  by_cases c2 : vs.any isStar = true
  · rw [if_pos c2] at h
    cases h
    exact if_pos c2
  rw [if_neg c2] at h
  refine Eq.trans (if_neg c2) ?_
  by_cases c3 : ((swNames env.scope ((ts.head?.map (·.pos.line)).getD 0) ts).length != ts.length || (swNames env.scope ((ts.head?.map (·.pos.line)).getD 0) ts).eraseDups.length != (swNames env.scope ((ts.head?.map (·.pos.line)).getD 0) ts).length) = true
  · rw [if_pos c3] at h
    cases h
    exact if_pos c3
  rw [if_neg c3] at h
  refine Eq.trans (if_neg c3) ?_
  by_cases c4 : vs.all (foldedForSure 8) = true
  · rw [if_pos c4] at h
    cases h
    exact if_pos c4
  rw [if_neg c4] at h
  refine Eq.trans (if_neg c4) ?_
  by_cases c5 : vs.all (constantsAlone 8) = true
  · rw [if_pos c5] at h
    cases h
  rw [if_neg c5] at h
  cases h
  exact if_neg c5
theorem gs2 {i j : Nat} {vs : List V} {Q : L2.St → Hp → Prop} (h : gsTg [i, j] vs σ H Q) : ∃ v w, vs = [v, w] ∧ Q ((σ.set i (some v)).set j (some w)) H := by
  obtain ⟨v, r, rfl, w, r2, rfl, rfl, q⟩ := h
  exact ⟨v, w, rfl, q⟩
theorem gs3 {i j l : Nat} {vs : List V} {Q : L2.St → Hp → Prop} (h : gsTg [i, j, l] vs σ H Q) : ∃ u v w, vs = [u, v, w] ∧ Q (((σ.set i (some u)).set j (some v)).set l (some w)) H := by
  obtain ⟨u, r, rfl, v, r2, rfl, w, r3, rfl, rfl, q⟩ := h
  exact ⟨u, v, w, rfl, q⟩
theorem all_len {fn : Str → Bool} : ∀ {is : List Nat} {es : List Expr}, allNames k sc fn is es = true → is.length = es.length
  | [], [], _ => rfl
  | [], _ :: _, h => by cases h
  | _ :: _, [], h => by cases h
  | i :: is, e :: es, h => by
    have h' : (nameM k sc fn i e && allNames k sc fn is es) = true := h
    rw [Bool.and_eq_true] at h'
    rw [List.length_cons, List.length_cons, all_len h'.2]
def isNameE : Expr → Bool
  | .Name _ _ => true | _ => false
def parOk (sc : Scope) (is : List Nat) (ts vs : List Expr) : Bool := match swS sc ts vs with
  | some none => decide (ts.length ≤ 1000)
  | some (some ns) => decide (ns = ts.filterMap nmE) && (decide is.Nodup && (ts.all (fun e => decide (((nmE e).bind fun x => sc.names.lookup x) = some .local)) && (decide (ts.length = 2) || decide (ts.length = 3))))
  | none => false
theorem s_par (c : CnS W F k sc X) {is : List Nat} {m : E} {ts vs : List Expr} {k1 k2 : Nat} {p1 p2 pos : Pos} (hn : allNames k sc (fun _ => true) is ts = true) (hlen : is.length = m.elen) (ho : parOk sc is ts vs = true) (ha : PA X vs (rdAo W F m)) :
    PS X (.Assign [.Tuple ts k1 p1] (.Tuple vs k2 p2) pos) (rdS W F (.par is m)) := by
  have hk : X.env.scope.kind = .function := by rw [c.c.sc]; exact c.kind
  unfold parOk at ho
  split at ho
  · rename_i hsw
    have hw := swS_ok (k1 := k1) (k2 := k2) (p1 := p1) (p2 := p2) hk (by rw [c.c.sc]; exact hsw)
    have q := g_tg c.c (tg := .many is) (e := .Tuple ts k1 p1) (by rw [c.fn]; exact hn)
    refine PS.imp (ps_asg (pe_tup ha) q rfl hw) fun D1 σ H q => ?_
    refine par_args hlen q fun vs' H' hl hg => ?_
    refine ⟨Nat.le_trans (by rw [← hl, all_len hn]; exact of_decide_eq_true ho) (Nat.le_trans (by decide) line_max), fun t ht => ?_⟩
    exact ⟨t, vs', rfl, .of upd_same, hl.symm, hg _ (.inr ⟨t, _, ht, rfl⟩)⟩
  · rename_i ns hsw
    have hw := swS_ok (k1 := k1) (k2 := k2) (p1 := p1) (p2 := p2) hk (by rw [c.c.sc]; exact hsw)
    simp only [Bool.and_eq_true, Bool.or_eq_true, decide_eq_true_eq] at ho
    obtain ⟨rfl, nd, hloc, hl2⟩ := ho
    have hll := all_len hn
    rcases ts with _ | ⟨t1, _ | ⟨t2, _ | ⟨t3, _ | ⟨t4, ts⟩⟩⟩⟩
    · rcases hl2 with z | z <;> cases z
    · rcases hl2 with z | z <;> cases z
    · rcases is with _ | ⟨i, _ | ⟨j, _ | ⟨l, is⟩⟩⟩ <;> first | cases hll | skip
      rcases vs with _ | ⟨v1, _ | ⟨v2, _ | ⟨v3, vs⟩⟩⟩
      · cases hsw
      · cases hsw
      · have hn' : (nameM k sc (fun _ => true) i t1 && (nameM k sc (fun _ => true) j t2 && true)) = true := hn
        simp only [Bool.and_eq_true] at hn'
        obtain ⟨n1, n2, _⟩ := hn'
        cases t1 <;> first | cases n1 | skip
        cases t2 <;> first | cases n2 | skip
        rename_i x px y py
        unfold nameM nameOk at n1 n2
        simp only [Bool.and_eq_true, decide_eq_true_eq] at n1 n2
        simp only [List.all_cons, List.all_nil, Bool.and_eq_true, decide_eq_true_eq] at hloc
        have ne : i ≠ j := fun z => by
          subst z
          simp at nd
        refine PS.imp (ps_par c.c.calm (by rw [c.c.N]; exact c.c.nd) (by rw [c.c.N]; exact n1.1) (by rw [c.c.N]; exact n2.1) ne (by rw [c.c.sc]; exact hloc.1) (by rw [c.c.sc]; exact hloc.2.1) ha hw) fun D1 σ H q => ?_
        exact par_args hlen q fun vs' H' hl hg => gs2 (hg H' (.inl rfl))
      · cases hsw
    · rcases is with _ | ⟨i, _ | ⟨j, _ | ⟨l, _ | ⟨l2, is⟩⟩⟩⟩ <;> first | cases hll | skip
      rcases vs with _ | ⟨v1, _ | ⟨v2, _ | ⟨v3, _ | ⟨v4, vs⟩⟩⟩⟩
      · cases hsw
      · cases hsw
      · cases hsw
      · have hn' : (nameM k sc (fun _ => true) i t1 && (nameM k sc (fun _ => true) j t2 && (nameM k sc (fun _ => true) l t3 && true))) = true := hn
        simp only [Bool.and_eq_true] at hn'
        obtain ⟨n1, n2, n3, _⟩ := hn'
        cases t1 <;> first | cases n1 | skip
        cases t2 <;> first | cases n2 | skip
        cases t3 <;> first | cases n3 | skip
        rename_i x px y py z pz
        unfold nameM nameOk at n1 n2 n3
        simp only [Bool.and_eq_true, decide_eq_true_eq] at n1 n2 n3
        simp only [List.all_cons, List.all_nil, Bool.and_eq_true, decide_eq_true_eq] at hloc
        simp only [List.nodup_cons, List.mem_cons, not_or, List.not_mem_nil, not_false_eq_true, and_true] at nd
        refine PS.imp (ps_par3 c.c.calm (by rw [c.c.N]; exact c.c.nd) (by rw [c.c.N]; exact n1.1) (by rw [c.c.N]; exact n2.1) (by rw [c.c.N]; exact n3.1) nd.1.1 nd.1.2 nd.2.1 (by rw [c.c.sc]; exact hloc.1) (by rw [c.c.sc]; exact hloc.2.1) (by rw [c.c.sc]; exact hloc.2.2.1) ha hw) fun D1 σ H q => ?_
        exact par_args hlen q fun vs' H' hl hg => gs3 (hg H' (.inl rfl))
      · cases hsw
    · rcases hl2 with z | z <;> cases z
  · cases ho
end
end Fm

/-! FmR: every statement that is checked does what exec says. -/
namespace Fm
open PySem PySem.Spec PyProof.Rows L2
section
variable {W : Wd} {F : Fns} {k : Kn} {sc : Scope} {X : Cx}
variable {env : Env} {σ : L2.St} {H : Hp} {D1 : Ends}
def notLC : Expr → Bool
  | .ListComp _ _ _ _ => false | .SetComp _ _ _ _ => false | .DictComp _ _ _ _ _ => false | _ => true
theorem swaps_no {e : Expr} {t : Option Expr} {l : Nat} {env : PySem.Env} (h : notLC e = true) : swapsWith e t l env = pure false := by
  cases e <;> first | rfl | cases h
theorem swaps_tup {e : Expr} {es : List Expr} {kk : Nat} {p : Pos} {l : Nat} {env : PySem.Env} : swapsWith e (some (.Tuple es kk p)) l env = pure false := by
  cases e <;> rfl
def notTup : Expr → Bool
  | .Tuple _ _ _ => false | _ => true
theorem stores_no {e : Expr} {es : List Expr} {kk : Nat} {p : Pos} {env : PySem.Env} (h : notTup e = true) : swappedStores [.Tuple es kk p] e env = pure none := by
  cases e <;> first | rfl | cases h
theorem sw_false {elt : Expr} {gs : List Comprehension} {scope : Scope} {pos py : Pos} {y : Str} {l : Nat} {env : PySem.Env}
    (h : (env.blockKind == .function && env.kindOf y == some .local && py.line == pos.line && !(scope.names.any fun (n, k) => n == y && (k == .local || k == .cell))) = false) : swapsWith (.ListComp elt gs scope pos) (some (.Name y py)) l env = pure false := by
  show (pure (env.blockKind == .function && env.kindOf y == some .local && py.line == pos.line && !(scope.names.any fun (n, k) => n == y && (k == .local || k == .cell))) : Sem Bool) = pure false
  rw [h]
def isCallE : Expr → Bool
  | .Call _ _ _ _ => true | _ => false
theorem chk_blt_call {f : Bi} {as : E} {t : Option Expr} {e : Expr} (h : chkE k (.blt f as) sc t e = true) : isCallE e = true := by
  rcases as with _ | ⟨a, _ | ⟨b, _ | _⟩⟩ <;> (try (unfold chkE at h; cases e <;> cases h; done))
  · unfold chkE at h
    cases e <;> first | cases h | rfl
  · unfold chkE at h
    cases e <;> first | cases h | rfl
theorem s_setT (c : CnS W F k sc X) {i : Nat} {m : E} {x : Str} {e : Expr} {p pos : Pos} (hn : nameOk k sc (fun _ => true) i x = true) (he : chkE k m sc none e = true) : PS X (.Assign [.Name x p] e pos) (tAsg (rdE W F m) (gName i)) := by
  have pe := ((all_ok W F k m).1.sub c.c he).pe
  unfold nameOk at hn
  simp only [Bool.and_eq_true, Bool.or_eq_true, decide_eq_true_eq] at hn
  obtain ⟨h1, h2⟩ := hn
  have hN : X.N.Nodup := by rw [c.c.N]; exact c.c.nd
  have hi : X.N[i]? = some x := by rw [c.c.N]; exact h1
  have hx : L2.Loc X.env.scope x := by
    unfold L2.Loc
    rw [c.c.sc]
    exact h2.imp id fun z => z.1
  have hf : X.fn x = true ∨ X.env.scope.names.lookup x = some .local := .inl (by rw [c.fn])
  by_cases hl : notLC e = true
  · exact ps_set hN hi hx pe (swaps_no hl) hf
  · cases e <;> first | exact absurd rfl hl | skip
    · rename_i ee gens scope cpos
      cases hb : (X.env.blockKind == .function && X.env.kindOf x == some .local && p.line == cpos.line && !(scope.names.any fun (n, k) => n == x && (k == .local || k == .cell))) with
      | false => exact ps_set hN hi hx pe (sw_false hb) hf
      | true =>
        cases m <;> first | (cases chk_blt_call he; done) | skip
        all_goals (unfold chkE at he)
        all_goals first | (cases he; done) | skip
        rename_i tg own it test elt
        rcases gens with _ | ⟨⟨t, ie, ifs, as⟩, _ | ⟨g2, gs⟩⟩ <;> first | cases he | skip
        rw [Bool.and_eq_true, Bool.and_eq_true, Bool.and_eq_true, Bool.and_eq_true, Bool.and_eq_true, Bool.and_eq_true, Bool.and_eq_true, decide_eq_true_eq] at he
        obtain ⟨rfl, g1, g2, g3, g4, g5, g6, g7⟩ := he
        simp only [Bool.and_eq_true, Bool.not_eq_true'] at hb
        obtain ⟨⟨⟨b1, b2⟩, b3⟩, b4⟩ := hb
        have hyl : X.env.scope.names.lookup x = some .local := by
          have z : X.env.kindOf x = some .local := by
            cases hq : X.env.kindOf x with
            | none => rw [hq] at b2; cases b2
            | some kd => rw [hq] at b2; cases kd <;> first | rfl | cases b2
          exact z
        have ok : BlkOk X.N X.env.scope scope (ownOf k own) := by
          rw [c.c.N, c.c.sc]
          exact blkOk_by g1
        have c1 := c.c
        have htest : ∀ X', Cn W F k (relS scope sc) X' → PTs X' ifs (ttOf W F test) := fun X' c' => pts_of c' (by
          rcases ifs with _ | ⟨e1, _ | ⟨e2, es⟩⟩
          · exact .inr ⟨rfl, g6⟩
          · simp only [Bool.and_eq_true, Bool.not_eq_true'] at g6
            exact .inl ⟨e1, rfl, g6.1, ((all_ok W F k test).1.sub c' g6.2).pt⟩
          · cases g6)
        have hk : X.env.scope.kind = .function := by rw [c.c.sc]; exact c.kind
        have q := ps_setLc (X := X) (spos := pos) (elt := ee) (te := rdE W F elt) c1.calm hN hi hyl (sw_true hk hyl b3 b4) ((all_ok W F k it).1.walk c1 g4) ok (fun s H C cl fp => g_tg (c1.blk s H scope C cl fp) (tg := tg) (e := t) g3) (fun s H C cl fp => htest _ (c1.blk s H scope C cl fp))
          (fun s H C cl fp => ((all_ok W F k elt).1.sub (c1.blk s H scope C cl fp) g7).pe) (set_ok g5)
        rw [ownOf_snd] at q
        exact PS.imp q fun D1 σ H h => lc_in g2 h
    · cases m <;> first | (cases chk_blt_call he; done) | (unfold chkE at he; cases he; done)
    · cases m <;> first | (cases chk_blt_call he; done) | (unfold chkE at he; cases he; done)
theorem s_set (c : CnS W F k sc X) {i : Nat} {m : E} {x : Str} {e : Expr} {p pos : Pos} (hn : nameOk k sc (fun _ => true) i x = true) (he : chkE k m sc none e = true) : PS X (.Assign [.Name x p] e pos) (rdS W F (.set (.one i) m)) :=
  PS.imp (s_setT c hn he) fun _ _ _ q => set_in q
theorem s_setl (c : CnS W F k sc X) {i : Nat} {m : E} {x : Str} {e : Expr} {p pos : Pos} (hn : nameOk k sc (fun _ => true) i x = true) (he : chkE k m sc none e = true) : PS X (.Assign [.Name x p] e pos) (rdS W F (.setl i m)) :=
  PS.imp (s_setT c hn he) fun _ _ _ q => setl_in q
theorem s_many (c : CnS W F k sc X) {is : List Nat} {m : E} {ts : List Expr} {e : Expr} {kk : Nat} {p pos : Pos} (hn : allNames k sc (fun _ => true) is ts = true) (ht : notTup e = true) (he : chkE k m sc none e = true) :
    PS X (.Assign [.Tuple ts kk p] e pos) (rdS W F (.set (.many is) m)) :=
  PS.imp (ps_asg ((all_ok W F k m).1.sub c.c he).pe (g_tg c.c (tg := .many is) (e := .Tuple ts kk p) (by rw [c.fn]; exact hn)) (show swapsWith e (some (.Tuple ts kk p)) pos.line X.env = pure false from swaps_tup) (stores_no ht)) fun _ _ _ q => many_in q
theorem argsO_ok (c : Cn W F k sc X) : ∀ {m : E} {es : List Expr}, chkEs k m sc es = true → PA X es (rdAo W F m) ∧ es.length = m.elen
  | .nil, [], _ => ⟨o_nil, rfl⟩
  | .nil, _ :: _, h => by cases h
  | .cons _ _, [], h => by cases h
  | .cons a as, e :: es, h => by
    have h' : (notStar e && (chkE k a sc none e && chkEs k as sc es)) = true := h
    simp only [Bool.and_eq_true] at h'
    obtain ⟨h1, h2, h3⟩ := h'
    obtain ⟨q, hl⟩ := argsO_ok c (m := as) h3
    exact ⟨o_cons h1 ((all_ok W F k a).1.sub c h2).pe q, by rw [List.length_cons, hl]; rfl⟩
  | .var _, _, h => by cases h
  | .non, _, h => by cases h
  | .bl _, _, h => by cases h
  | .int _, _, h => by cases h
  | .str _, _, h => by cases h
  | .tup _, _, h => by cases h
  | .lst _, _, h => by cases h
  | .op _ _ _, _, h => by cases h
  | .chain _ _ _ _ _, _, h => by cases h
  | .neg _, _, h => by cases h
  | .nt _, _, h => by cases h
  | .and _ _, _, h => by cases h
  | .or _ _, _, h => by cases h
  | .ite _ _ _, _, h => by cases h
  | .call _ _, _, h => by cases h
  | .blt _ _, _, h => by cases h
  | .isi _ _, _, h => by cases h
  | .attr _ _, _, h => by cases h
  | .ix _ _, _, h => by cases h
  | .sl _ _ _, _, h => by cases h
  | .rev _, _, h => by cases h
  | .lc _ _ _ _ _, _, h => by cases h
  | .rng1 _, _, h => by cases h
  | .rng2 _ _, _, h => by cases h
  | .zip _ _, _, h => by cases h
  | .enum _, _, h => by cases h
  | .gint _ _, _, h => by cases h
  | .emp, _, h => by cases h
  | .ceq _ _ _, _, h => by cases h
theorem s_app (c : CnS W F k sc X) {i : Nat} {m : E} {o e : Expr} {ap cp pos : Pos} (ho : chkE k (.var i) sc none o = true) (hs : notStar e = true) (he : chkE k m sc none e = true) (hl : (ap.endLine == cp.line) = true) :
    PS X (.Expr (.Call (.Attribute o "append" ap) [e] [] cp) pos) (rdS W F (.app i m)) := by
  have po := g_var (W := W) (F := F) c.c ho
  have hb : attributeBase o "append" X.env (eval o X.env) = eval o X.env := by
    unfold chkE at ho
    cases o <;> first | cases ho | rfl
  have q := pe_bm (X := X) (apos := ap) (cpos := cp) PySem.F.plainAttrs_list PySem.F.slot_list_append PySem.F.type_list_append mt_append po (pa_cons ((all_ok W F k m).1.sub c.c he).pe pa_nil (star_ok hs _)) hb (by rw [star_ok hs]; rfl) hl (star_ok hs _) rfl
  rw [c.c.K] at q
  exact PS.imp (ps_expr q rfl) fun _ _ _ h => app_in h
theorem s_apop (c : CnS W F k sc X) {i j : Nat} {m : E} {o o2 e : Expr} {ap cp ap2 cp2 pos : Pos} (ho : chkE k (.var i) sc none o = true) (ho2 : chkE k (.var j) sc none o2 = true) (hs : notStar e = true) (he : chkE k m sc none e = true) (hl : (ap.endLine == cp.line) = true) (hl2 : (ap2.endLine == cp2.line) = true) :
    PS X (.Expr (.Call (.Attribute o "append" ap) [.Call (.Attribute o2 "pop" ap2) [e] [] cp2] [] cp) pos) (rdS W F (.apop i j m)) := by
  have po := g_var (W := W) (F := F) c.c ho
  have po2 := g_var (W := W) (F := F) c.c ho2
  have hb : attributeBase o "append" X.env (eval o X.env) = eval o X.env := by
    unfold chkE at ho
    cases o <;> first | cases ho | rfl
  have hb2 : attributeBase o2 "pop" X.env (eval o2 X.env) = eval o2 X.env := by
    unfold chkE at ho2
    cases o2 <;> first | cases ho2 | rfl
  have q2 := pe_bm (X := X) (apos := ap2) (cpos := cp2) PySem.F.plainAttrs_list PySem.F.slot_list_pop PySem.F.type_list_pop mt_popAt po2 (pa_cons ((all_ok W F k m).1.sub c.c he).pe pa_nil (star_ok hs _)) hb2 (by rw [star_ok hs]; rfl) hl2 (star_ok hs _) rfl
  have q := pe_bm (X := X) (apos := ap) (cpos := cp) PySem.F.plainAttrs_list PySem.F.slot_list_append PySem.F.type_list_append mt_append po (pa_cons q2 pa_nil rfl) hb rfl hl rfl rfl
  rw [c.c.K] at q
  exact PS.imp (ps_expr q rfl) fun _ _ _ h => apop_in h
theorem s_ext (c : CnS W F k sc X) {i : Nat} {m : E} {o e : Expr} {ap cp pos : Pos} (ho : chkE k (.var i) sc none o = true) (hs : notStar e = true) (he : chkE k m sc none e = true) (hl : (ap.endLine == cp.line) = true) :
    PS X (.Expr (.Call (.Attribute o "extend" ap) [e] [] cp) pos) (rdS W F (.ext i m)) := by
  have po := g_var (W := W) (F := F) c.c ho
  have hb : attributeBase o "extend" X.env (eval o X.env) = eval o X.env := by
    unfold chkE at ho
    cases o <;> first | cases ho | rfl
  have q := pe_bm (X := X) (apos := ap) (cpos := cp) PySem.F.plainAttrs_list PySem.F.slot_list_extend PySem.F.type_list_extend mt_extend po (pa_cons ((all_ok W F k m).1.sub c.c he).pe pa_nil (star_ok hs _)) hb (by rw [star_ok hs]; rfl) hl (star_ok hs _) rfl
  rw [c.c.K] at q
  exact PS.imp (ps_expr q rfl) fun _ _ _ h => ext_in h
theorem swaps_sub {e o ix : Expr} {p : Pos} {l : Nat} {env : PySem.Env} : swapsWith e (some (.Subscript o ix p)) l env = pure false := by
  cases e <;> rfl
theorem s_seti (c : CnS W F k sc X) {i : Nat} {j m : E} {o ix e : Expr} {p pos : Pos} (ho : chkE k (.var i) sc none o = true) (hix : notSlice ix = true) (hj : chkE k j sc none ix = true) (he : chkE k m sc none e = true) :
    PS X (.Assign [.Subscript o ix p] e pos) (rdS W F (.seti i j m)) :=
  PS.imp (ps_asg ((all_ok W F k m).1.sub c.c he).pe (pg_sub (g_var (W := W) (F := F) c.c ho) ((all_ok W F k j).1.sub c.c hj).pe set_list (by intro v; cases ix <;> first | rfl | cases hix)) (show swapsWith e (some (.Subscript o ix p)) pos.line X.env = pure false from swaps_sub) rfl) fun _ _ _ q => seti_in q
/-! ### the checker -/
mutual
def chkS (k : Kn) (sc : Scope) : S → Stmt → Bool
  | .ret e, .Return (some x) _ => chkE k e sc none x
  | .set (.one i) e, .Assign [.Name x _] v _ => nameOk k sc (fun _ => true) i x && chkE k e sc none v
  | .setl i e, .Assign [.Name x _] v _ => nameOk k sc (fun _ => true) i x && chkE k e sc none v
  | .set (.many is) e, .Assign [.Tuple ts _ _] v _ => allNames k sc (fun _ => true) is ts && (notTup v && chkE k e sc none v)
  | .par is es, .Assign [.Tuple ts _ _] (.Tuple vs _ _) _ => allNames k sc (fun _ => true) is ts && (decide (is.length = vs.length) && (parOk sc is ts vs && chkEs k es sc vs))
  | .expr e, .Expr v _ => notLC v && chkE k e sc none v
  | .ite c a b, .If x sa sb _ => chkE k c sc none x && (chkSs k sc a sa && chkSs k sc b sb)
  | .for_ tg it b, .For t ie body [] _ => chkTg k sc (fun _ => true) tg t && (chkE k it sc (some t) ie && (notSet ie && chkSs k sc b body))
  | .while_ c b, .While x body [] _ => chkE k c sc none x && chkSs k sc b body
  | .app i e, .Expr (.Call (.Attribute o f ap) [v] [] cp) _ => decide (f = Str.ofString "append") && (chkE k (.var i) sc none o && (notStar v && (chkE k e sc none v && ap.endLine == cp.line)))
  | .ext i e, .Expr (.Call (.Attribute o f ap) [v] [] cp) _ => decide (f = Str.ofString "extend") && (chkE k (.var i) sc none o && (notStar v && (chkE k e sc none v && ap.endLine == cp.line)))
  | .apop i j e, .Expr (.Call (.Attribute o f ap) [.Call (.Attribute o2 f2 ap2) [v] [] cp2] [] cp) _ => decide (f = Str.ofString "append") && (decide (f2 = Str.ofString "pop") && (chkE k (.var i) sc none o && (chkE k (.var j) sc none o2 && (notStar v && (chkE k e sc none v && ((ap.endLine == cp.line) && (ap2.endLine == cp2.line)))))))
  | .seti i j e, .Assign [.Subscript o ix _] v _ => chkE k (.var i) sc none o && (notSlice ix && (chkE k j sc none ix && chkE k e sc none v))
  | .brk, .Break _ => true
  | .never, _ => true
  | _, _ => false
def chkSs (k : Kn) (sc : Scope) : S → List Stmt → Bool
  | .nil, [] => true
  | .cons a as, st :: sts => chkS k sc a st && chkSs k sc as sts
  | _, _ => false
end
theorem s_brk {pos : Pos} : PS X (.Break pos) (rdS W F .brk) := PS.imp ps_break fun D1 σ H q => by
  obtain ⟨Z0, G0, H0, Z, G, env, f, w⟩ := q
  exact (show RKn W Z0 G0 H0 [] Z G H env σ D1 (R.bk env) from w) Z G H σ (EvS.refl f.s) f
theorem s_never {st : Stmt} : PS X st (rdS W F .never) := PS.imp ps_never fun D1 σ H q => by
  obtain ⟨Z0, G0, H0, Z, G, env, f, w⟩ := q
  exact w.elim
theorem stmts_ok (W : Wd) (F : Fns) (k : Kn) (m : S) : (∀ sc X st, CnS W F k sc X → chkS k sc m st = true → PS X st (rdS W F m)) ∧ (∀ sc X sts, CnS W F k sc X → chkSs k sc m sts = true → PSs X sts (rdS W F m)) := by
  have nos : ∀ {m : S}, (∀ sc sts, chkSs k sc m sts = false) → ∀ sc X sts, CnS W F k sc X → chkSs k sc m sts = true → PSs X sts (rdS W F m) := fun h sc X sts _ z => by
    rw [h] at z
    cases z
  induction m with
  | nil => exact ⟨fun sc X st c h => (by unfold chkS at h; cases st <;> cases h), fun sc X sts c h => by
      unfold chkSs at h
      cases sts <;> first | cases h | skip
      exact s_nil⟩
  | cons a as ha has => exact ⟨fun sc X st c h => (by unfold chkS at h; cases st <;> cases h), fun sc X sts c h => by
      unfold chkSs at h
      cases sts <;> first | cases h | skip
      rw [Bool.and_eq_true] at h
      exact s_cons (ha.1 sc X _ c h.1) (has.2 sc X _ c h.2)⟩
  | ret e =>
    refine ⟨fun sc X st c h => ?_, nos fun _ sts => (by cases sts <;> rfl)⟩
    unfold chkS at h
    cases st <;> first | cases h | skip
    rename_i v pos
    cases v <;> first | cases h | skip
    exact s_ret ((all_ok W F k e).1.sub c.c h).pe
  | set tg e =>
    refine ⟨fun sc X st c h => ?_, nos fun _ sts => (by cases sts <;> rfl)⟩
    cases tg with
    | one i =>
      unfold chkS at h
      cases st <;> first | cases h | skip
      rename_i ts v pos
      rcases ts with _ | ⟨t, _ | ⟨t2, ts⟩⟩ <;> first | (cases h; done) | (cases t <;> cases h; done) | (cases t <;> cases v <;> cases h; done) | skip
      cases t <;> first | cases h | skip
      rw [Bool.and_eq_true] at h
      exact s_set c h.1 h.2
    | many is =>
      unfold chkS at h
      cases st <;> first | cases h | skip
      rename_i ts v pos
      rcases ts with _ | ⟨t, _ | ⟨t2, ts⟩⟩ <;> first | (cases h; done) | (cases t <;> cases h; done) | (cases t <;> cases v <;> cases h; done) | skip
      cases t <;> first | cases h | skip
      rw [Bool.and_eq_true, Bool.and_eq_true] at h
      exact s_many c h.1 h.2.1 h.2.2
  | par is es =>
    refine ⟨fun sc X st c h => ?_, nos fun _ sts => (by cases sts <;> rfl)⟩
    unfold chkS at h
    cases st <;> first | cases h | skip
    rename_i ts v pos
    rcases ts with _ | ⟨t, _ | ⟨t2, ts⟩⟩ <;> first | (cases h; done) | (cases t <;> cases h; done) | (cases t <;> cases v <;> cases h; done) | skip
    cases t <;> first | cases h | skip
    cases v <;> first | cases h | skip
    rw [Bool.and_eq_true, Bool.and_eq_true, Bool.and_eq_true, decide_eq_true_eq] at h
    obtain ⟨h1, h2, h3, h4⟩ := h
    obtain ⟨q, hl⟩ := argsO_ok c.c h4
    exact s_par c h1 (by rw [h2, hl]) h3 q
  | expr e =>
    refine ⟨fun sc X st c h => ?_, nos fun _ sts => (by cases sts <;> rfl)⟩
    unfold chkS at h
    cases st <;> first | cases h | skip
    rw [Bool.and_eq_true] at h
    exact s_expr (fun _ _ => swaps_no h.1) ((all_ok W F k e).1.sub c.c h.2).pe
  | ite e a b ha hb =>
    refine ⟨fun sc X st c h => ?_, nos fun _ sts => (by cases sts <;> rfl)⟩
    unfold chkS at h
    cases st <;> first | cases h | skip
    rw [Bool.and_eq_true, Bool.and_eq_true] at h
    exact s_ite ((all_ok W F k e).1.sub c.c h.1).pt (ha.2 sc X _ c h.2.1) (hb.2 sc X _ c h.2.2)
  | for_ tg it b hb =>
    refine ⟨fun sc X st c h => ?_, nos fun _ sts => (by cases sts <;> rfl)⟩
    unfold chkS at h
    cases st <;> first | cases h | skip
    rename_i t ie body orelse pos
    cases orelse <;> first | cases h | skip
    rw [Bool.and_eq_true, Bool.and_eq_true, Bool.and_eq_true] at h
    obtain ⟨h1, h2, h3, h4⟩ := h
    exact s_for c h1 ((all_ok W F k it).1.walk c.c h2) h3 (hb.2 sc X _ c h4)
  | while_ e b hb =>
    refine ⟨fun sc X st c h => ?_, nos fun _ sts => (by cases sts <;> rfl)⟩
    unfold chkS at h
    cases st <;> first | cases h | skip
    rename_i t body orelse pos
    cases orelse <;> first | cases h | skip
    rw [Bool.and_eq_true] at h
    exact s_while c ((all_ok W F k e).1.sub c.c h.1).pt (hb.2 sc X _ c h.2)
  | app i e =>
    refine ⟨fun sc X st c h => ?_, nos fun _ sts => (by cases sts <;> rfl)⟩
    unfold chkS at h
    cases st <;> first | cases h | skip
    rename_i v pos
    cases v <;> first | cases h | skip
    rename_i fe es kws cp
    cases fe <;> first | cases h | skip
    rcases es with _ | ⟨v, _ | ⟨v2, es⟩⟩ <;> first | cases h | skip
    cases kws <;> first | cases h | skip
    rw [Bool.and_eq_true, Bool.and_eq_true, Bool.and_eq_true, Bool.and_eq_true, decide_eq_true_eq] at h
    obtain ⟨rfl, h1, h2, h3, h4⟩ := h
    exact s_app c h1 h2 h3 h4
  | setl i e =>
    refine ⟨fun sc X st c h => ?_, nos fun _ sts => (by cases sts <;> rfl)⟩
    unfold chkS at h
    cases st <;> first | cases h | skip
    rename_i ts v pos
    rcases ts with _ | ⟨t, _ | ⟨t2, ts⟩⟩ <;> first | (cases h; done) | (cases t <;> cases h; done) | (cases t <;> cases v <;> cases h; done) | skip
    cases t <;> first | cases h | skip
    rw [Bool.and_eq_true] at h
    exact s_setl c h.1 h.2
  | apop i j e =>
    refine ⟨fun sc X st c h => ?_, nos fun _ sts => (by cases sts <;> rfl)⟩
    unfold chkS at h
    cases st <;> first | cases h | skip
    rename_i v pos
    cases v <;> first | cases h | skip
    rename_i fe es kws cp
    cases fe <;> first | cases h | skip
    rcases es with _ | ⟨v, _ | ⟨v2, es⟩⟩ <;> first | cases h | skip
    · cases v <;> first | cases h | skip
      rename_i fe2 es2 kws2 cp2
      cases fe2 <;> first | cases h | skip
      rcases es2 with _ | ⟨v3, _ | ⟨v4, es3⟩⟩ <;> first | cases h | skip
      cases kws2 <;> first | cases h | skip
      cases kws <;> first | cases h | skip
      rw [Bool.and_eq_true, Bool.and_eq_true, Bool.and_eq_true, Bool.and_eq_true, Bool.and_eq_true, Bool.and_eq_true, Bool.and_eq_true, decide_eq_true_eq, decide_eq_true_eq] at h
      obtain ⟨rfl, rfl, h1, h2, h3, h4, h5, h6⟩ := h
      exact s_apop c h1 h2 h3 h4 h5 h6
    · cases v <;> first | cases h | skip
      rename_i fe2 es2 kws2 cp2
      cases fe2 <;> first | cases h | skip
      rcases es2 with _ | ⟨v3, _ | ⟨v4, es3⟩⟩ <;> first | cases h | skip
      cases kws2 <;> cases h
  | ext i e =>
    refine ⟨fun sc X st c h => ?_, nos fun _ sts => (by cases sts <;> rfl)⟩
    unfold chkS at h
    cases st <;> first | cases h | skip
    rename_i v pos
    cases v <;> first | cases h | skip
    rename_i fe es kws cp
    cases fe <;> first | cases h | skip
    rcases es with _ | ⟨v, _ | ⟨v2, es⟩⟩ <;> first | cases h | skip
    cases kws <;> first | cases h | skip
    rw [Bool.and_eq_true, Bool.and_eq_true, Bool.and_eq_true, Bool.and_eq_true, decide_eq_true_eq] at h
    obtain ⟨rfl, h1, h2, h3, h4⟩ := h
    exact s_ext c h1 h2 h3 h4
  | brk =>
    refine ⟨fun sc X st c h => ?_, nos fun _ sts => (by cases sts <;> rfl)⟩
    unfold chkS at h
    cases st <;> first | cases h | skip
    exact s_brk
  | never => exact ⟨fun sc X st c h => s_never, nos fun _ sts => (by cases sts <;> rfl)⟩
  | seti i j e =>
    refine ⟨fun sc X st c h => ?_, nos fun _ sts => (by cases sts <;> rfl)⟩
    unfold chkS at h
    cases st <;> first | cases h | skip
    rename_i ts v pos
    rcases ts with _ | ⟨t, _ | ⟨t2, ts⟩⟩ <;> first | (cases h; done) | (cases t <;> cases h; done) | skip
    cases t <;> first | cases h | skip
    rw [Bool.and_eq_true, Bool.and_eq_true, Bool.and_eq_true] at h
    exact s_seti c h.1 h.2.1 h.2.2.1 h.2.2.2
  | popset i j => exact ⟨fun sc X st c h => (by unfold chkS at h; cases st <;> cases h), nos fun _ sts => (by cases sts <;> rfl)⟩
  | pass => exact ⟨fun sc X st c h => (by unfold chkS at h; cases st <;> cases h), nos fun _ sts => (by cases sts <;> rfl)⟩
end
end Fm

/-! FmT: functions, by levels. -/
namespace Fm
open PySem PySem.Spec PyProof.Rows L2
/-- one of my defs -/
structure DefS where
  name : String
  ps : List Str
  N : List Str
  body : S
def envOf (N : List Str) (ds : List D) : Env := ds.map some ++ List.replicate (N.length - ds.length) none
def endT : R → T D
  | .rt d _ => .ret d
  | .nx _ => .ret .non
  | .bk _ => .bad
def findD (fs : List DefS) (f : String) : Option DefS := fs.find? fun d => d.name == f
/-- what the functions compute: calls no deeper than n -/
def callF (prim : Fns) (fs : List DefS) : Nat → Fns
  | 0, f, ds => match findD fs f with
    | some _ => .bad
    | none => prim f ds
  | n + 1, f, ds => match findD fs f with
    | some d => if ds.length = d.ps.length then exec (callF prim fs n) d.body (envOf d.N ds) >>= endT else T.bad
    | none => prim f ds
section
variable {W : Wd} {P : Program} {w : World} {mg : Str → Option Value} {base : Heap}
structure Facts (W : Wd) (mg : Str → Option Value) (gi : List (String × Int)) : Prop where
  gi : ∀ p ∈ gi, ∃ t, mg (Str.ofString p.1) = some (.int p.2 t)
  bl : ∀ x ∈ blts, mg x = none
  cls : Cls W.K W.C
  noat : ∀ x ∈ (["persons", "ties", "needs", "looked"] : List Str), NoAttr W.K W.C x
structure DefOk (W : Wd) (mg : Str → Option Value) (cs : List (String × Nat)) (gi : List (String × Int)) (d : DefS) : Prop where
  ex : ∃ a fd x q params body scope, mg (Str.ofString d.name) = some (.ref a) ∧ FunD W.K x q params body scope [] [] a fd ∧ Binds W.K fd d.ps [] ∧ FnScope d.N d.ps scope ∧ chkSs ⟨d.N, cs, gi⟩ scope d.body body = true
  ne : d.name ≠ "=="
/-- what is not one of my defs -/
structure PrimA (W : Wd) (P : Program) (w : World) (mg : Str → Option Value) (base : Heap) (prim : Fns) (c : Nat) (p : String) : Prop where
  ex : ∃ a, mg (Str.ofString p) = some (.ref a) ∧
    ((∃ fd ps, PySem.W.keepIn W.K (.ref a) = true ∧ Binds W.K fd ps [] ∧ FnOk P w W.K mg base CX0 c a fd ps (spF W prim p)) ∨
     (∃ ini fd ps sp, Mk W.K a ini ∧ Binds W.K fd ps [] ∧ FnOk P w W.K mg base CX0 c ini fd ps sp ∧
        ∀ vs H Q, spF W prim p vs H Q E0 → ∀ x dx, H x = none → H dx = none → dx ≠ x → sp (.ref x :: (vs ++ [])) (upd (upd H dx (.own x)) x (.ins a dx [])) (fun v H2 => v = .non ∧ Q (.ref x) H2) E0))
structure PrimOk (W : Wd) (P : Program) (w : World) (mg : Str → Option Value) (base : Heap) (prim : Fns) (c : Nat) (p : String) : Prop where
  a : p ≠ "==" → PrimA W P w mg base prim c p
  eq : p = "==" → ∃ c2, c2 + 1 ≤ c ∧ EqFn W P w W.K mg base c2
theorem PrimOk.of {prim : Fns} {c : Nat} {p : String} (hne : p ≠ "==") (h : PrimA W P w mg base prim c p) : PrimOk W P w mg base prim c p := ⟨fun _ => h, fun e => absurd e hne⟩
theorem callF_prim {prim : Fns} {fs : List DefS} {p : String} (h : findD fs p = none) (n : Nat) : callF prim fs n p = prim p := by
  funext ds
  cases n with
  | zero =>
    show (match findD fs p with | some _ => T.bad | none => prim p ds) = _
    rw [h]
  | succ n =>
    show (match findD fs p with | some d => if ds.length = d.ps.length then exec (callF prim fs n) d.body (envOf d.N ds) >>= endT else T.bad | none => prim p ds) = _
    rw [h]
theorem callF_def {prim : Fns} {fs : List DefS} {p : String} {d : DefS} (h : findD fs p = some d) (n : Nat) (ds : List D) : callF prim fs (n + 1) p ds = if ds.length = d.ps.length then exec (callF prim fs n) d.body (envOf d.N ds) >>= endT else T.bad := by
  show (match findD fs p with | some d => if ds.length = d.ps.length then exec (callF prim fs n) d.body (envOf d.N ds) >>= endT else T.bad | none => prim p ds) = _
  rw [h]
theorem callF_zero {prim : Fns} {fs : List DefS} {p : String} {d : DefS} (h : findD fs p = some d) (ds : List D) : callF prim fs 0 p ds = T.bad := by
  show (match findD fs p with | some _ => T.bad | none => prim p ds) = _
  rw [h]
theorem env_get {N : List Str} {ds : List D} {i : Nat} {d : D} (h : (envOf N ds)[i]? = some (some d)) : ds[i]? = some d := by
  unfold envOf at h
  by_cases hi : i < ds.length
  · rw [List.getElem?_append_left (by rw [List.length_map]; exact hi), List.getElem?_map] at h
    cases e : ds[i]? with
    | none => rw [e] at h; cases h
    | some x =>
      rw [e] at h
      exact congrArg some (Option.some.inj (Option.some.inj h))
  · rw [List.getElem?_append_right (by rw [List.length_map]; omega), List.getElem?_replicate] at h
    split at h <;> cases h
theorem start_get {N : List Str} {vs : List V} {i : Nat} {v : V} (h : vs[i]? = some v) : (L2.start N vs)[i]? = some (some v) := by
  have hi : i < vs.length := by
    by_cases hi : i < vs.length
    · exact hi
    · rw [List.getElem?_eq_none (by omega)] at h
      cases h
  unfold L2.start
  rw [List.getElem?_append_left (by rw [List.length_map]; exact hi), List.getElem?_map, h]
  rfl
theorem fs_start {Z : Addr → Prop} {G : Gh} {H : Hp} {N : List Str} {vs : List V} {ds : List D} (g : GInv W G H) (zo : ZOk Z G H) (r : RelL W Z G H vs ds) : FS W Z G H Z G H (envOf N ds) (L2.start N vs) := by
  refine ⟨⟨?_, g, zo, fun i d h => ?_, fun i j xs ys p h1 h2 _ _ => ?_⟩, Ext.refl G H, fun _ z => z, zo, fun i xs p h1 h2 => ?_, fun p z => .inl z⟩
  · unfold envOf L2.start
    rw [List.length_append, List.length_append, List.length_map, List.length_map, List.length_replicate, List.length_replicate, r.length]
    exact Nat.le_refl _
  · obtain ⟨v, hv, rv⟩ := r.getD (env_get h)
    exact ⟨v, start_get hv, rv.s⟩
  · obtain ⟨v, hv, rv⟩ := r.getD (env_get h1)
    cases rv
  · obtain ⟨v, hv, rv⟩ := r.getD (env_get h1)
    cases rv
theorem body_in {F : Fns} {N : List Str} {body : S} {Z : Addr → Prop} {G : Gh} {H : Hp} {vs : List V} {ds : List D} {Q : VK} (g : GInv W G H) (zo : ZOk Z G H) (r : RelL W Z G H vs ds)
    (h : (exec F body (envOf N ds) >>= endT).wp (fun d => ∀ G' H' v, Ext G H G' H' → GInv W G' H' → RelR W Z H G' H' v d → Q v H')) : rdS W F body { nx := fun _ H' => Q .non H', rt := Q } (L2.start N vs) H := by
  refine ⟨Z, G, H, Z, G, envOf N ds, fs_start g zo r, T.wp_imp (T.wp_bind.mp h) fun x hx => ?_⟩
  cases x with
  | nx env' => exact fun Z' G' H' σ' _ f => (show ∀ G' H' v, Ext G H G' H' → GInv W G' H' → RelR W Z H G' H' v .non → Q v H' from hx) G' H' .non f.e f.s.gi .non
  | bk env' => exact hx.elim
  | rt d env' => exact fun Z' G' H' σ' v _ f r => (show ∀ G' H' v, Ext G H G' H' → GInv W G' H' → RelR W Z H G' H' v d → Q v H' from hx) G' H' v f.e f.s.gi r
theorem funD_look {K : PySem.W.Frag} {x q : Str} {params : Arguments} {body : List Stmt} {scope : Scope} {dvs : List V} {kws : List (Str × V)} {f : Addr} {fd : FuncData} (h : FunD K x q params body scope dvs kws f fd) : ∃ oc od osl, K.lookup f = some ⟨oc, od, .func fd, osl⟩ := by
  obtain ⟨oc, od, dV, kV, doc, pm, an, cdv, ct, osl, e, lk, hcd, _, _⟩ := h.ex
  exact ⟨oc, od, osl, lk⟩
theorem fn_same {K : PySem.W.Frag} {f : Addr} {fd fd2 : FuncData} (h : ∃ oc od osl, K.lookup f = some ⟨oc, od, .func fd, osl⟩) (h2 : ∃ oc od osl, K.lookup f = some ⟨oc, od, .func fd2, osl⟩) : fd2 = fd := by
  obtain ⟨oc, od, osl, e⟩ := h
  obtain ⟨oc2, od2, osl2, e2⟩ := h2
  rw [e] at e2
  cases e2
  rfl
theorem fn_lvl {prim : Fns} {fs : List DefS} {cs : List (String × Nat)} {gi : List (String × Int)} {c : Nat} (fa : Facts W mg gi) (hd : ∀ d ∈ fs, DefOk W mg cs gi d) (hfind : ∀ d ∈ fs, findD fs d.name = some d)
    (hc : ∀ p ∈ cs, (∃ d ∈ fs, d.name = p.1) ∨ (findD fs p.1 = none ∧ PrimOk W P w mg base prim c p.1)) :
    ∀ n, ∀ d ∈ fs, ∃ a fd, mg (Str.ofString d.name) = some (.ref a) ∧ (PySem.W.keepIn W.K (.ref a) = true ∧ ∃ oc od osl, W.K.lookup a = some ⟨oc, od, .func fd, osl⟩) ∧ Binds W.K fd d.ps [] ∧ FnOk P w W.K mg base CX0 (n + c + 1) a fd d.ps (spF W (callF prim fs n) d.name) := by
  intro n
  induction n with
  | zero =>
    intro d hm
    obtain ⟨a, fd, x, q, params, body, scope, h1, h2, h3, h4, h5⟩ := (hd d hm).ex
    have no : ∀ vs H Q E, spF W (callF prim fs 0) d.name vs H Q E → False := fun vs H Q E h => by
      obtain ⟨Z, G, ds, _, _, _, h⟩ := h
      rw [callF_zero (hfind d hm)] at h
      exact h
    exact ⟨a, fd, h1, ⟨h2.kp, funD_look h2⟩, h3, ⟨fun vs H Q E h => (no _ _ _ _ h).elim, fun _ _ _ _ _ _ _ _ _ _ _ _ _ h => (no _ _ _ _ h).elim⟩⟩
  | succ n ih =>
    intro d hm
    obtain ⟨a, fd, x, q, params, body, scope, h1, h2, h3, h4, h5⟩ := (hd d hm).ex
    refine ⟨a, fd, h1, ⟨h2.kp, funD_look h2⟩, h3, ?_⟩
    have e0 : n + 1 + c + 1 = (n + c + 1) + 1 := by omega
    rw [e0]
    have un : ∀ {vs H Q E}, spF W (callF prim fs (n + 1)) d.name vs H Q E → ∃ Z G ds, GInv W G H ∧ ZOk Z G H ∧ RelL W Z G H vs ds ∧ ds.length = d.ps.length ∧ (exec (callF prim fs n) d.body (envOf d.N ds) >>= endT).wp (fun d => ∀ G' H' v, Ext G H G' H' → GInv W G' H' → RelR W Z H G' H' v d → Q v H') := fun {vs H Q E} h => by
      obtain ⟨Z, G, ds, g, zo, r, h⟩ := h
      rw [callF_def (hfind d hm)] at h
      obtain ⟨hl, h⟩ := wp_if h
      exact ⟨Z, G, ds, g, zo, r, hl, h⟩
    refine h2.ok h4 (fun vs H Q E h => ?_) fun cdv A outer s H vs Q E hr h => ⟨rdS W (callF prim fs n) d.body, PSs.nox ?_, ?_⟩
    · obtain ⟨Z, G, ds, g, zo, r, hl, _⟩ := un h
      rw [r.length, hl]
    · refine (stmts_ok W (callF prim fs n) ⟨d.N, cs, gi⟩ d.body).2 scope _ body ⟨⟨rfl, rfl, h4.nd, rfl, rfl, ?_, fun p hp => ?_, fa.gi, fa.bl, fa.cls, fa.noat⟩, rfl, rfl, h4.kind⟩ h5
      · have := hr.un
        show (A.deeper _).units + 100 < cLine
        omega
      · rcases hc p hp with ⟨g, hg, e⟩ | ⟨hno, hp'⟩
        · obtain ⟨a2, fd2, m1, m2, m3, m4⟩ := ih g hg
          rw [← e]
          exact ⟨fun _ => ⟨a2, m1, .inl ⟨n + c + 1, fd2, g.ps, hr, m2.1, m3, m4⟩⟩, fun z => absurd z (hd g hg).ne⟩
        · refine ⟨fun hne => ?_, fun he => ?_⟩
          rotate_left 1
          · obtain ⟨c2, hc2, e⟩ := hp'.eq he
            exact ⟨c2, hr.mono (by omega), e⟩
          obtain ⟨a2, m1, hh⟩ := (hp'.a hne).ex
          refine ⟨a2, m1, ?_⟩
          rcases hh with ⟨fd2, ps2, m2, m3, m4⟩ | ⟨ini, fd2, ps2, sp2, m2, m3, m4, m5⟩
          · refine .inl ⟨c, fd2, ps2, hr.mono (by omega), m2, m3, m4.imp fun vs H Q E h => ?_⟩
            obtain ⟨Z, G, ds, g, zo, r, h⟩ := h
            rw [callF_prim hno] at h
            exact ⟨Z, G, ds, g, zo, r, h⟩
          · refine .inr ⟨c, ini, fd2, ps2, sp2, m2, hr.mono (by omega), m3, m4, fun vs H Q h => m5 vs H Q ?_⟩
            obtain ⟨Z, G, ds, g, zo, r, h⟩ := h
            rw [callF_prim hno] at h
            exact ⟨Z, G, ds, g, zo, r, h⟩
    · obtain ⟨Z, G, ds, g, zo, r, _, hw⟩ := un h
      exact body_in g zo r hw
/-- the law's end -/
theorem law_sp {prim : Fns} {fs : List DefS} {n : Nat} {f : String} {H : Hp} {a : Addr} {ns : List Int} (hl : ns.length ≤ 63) (hS : SqL W.K H a (ns.map V.int))
    (h : (callF prim fs n f [.scr ns]).wp fun d => d = .bl true) (E : XK) : spF W (callF prim fs n) f [.ref a] H (fun v _ => v = .bl true) E := by
  refine ⟨noZ, fun _ => none, [.scr ns], fun p k e => (by cases e), fun p z => z.elim, .cons (.scr ?_ hl) .nil, T.wp_imp h fun d hd G' H' v _ _ r => ?_⟩
  · rcases hS with hS | hS
    · refine .inr ⟨.inl hS, rfl, fun z => z, ?_⟩
      rcases hS with e | ⟨o, e⟩ <;> (rw [e]; rfl)
    · exact .inl fun _ => .inr hS
  · subst hd
    cases r
    rfl
/-- at every end True -/
structure Good (t : T D) : Prop where
  w : t.wp fun d => d = .bl true
theorem law_good {F : Fns} {f : String} {H : Hp} {a : Addr} {ns : List Int} (hl : ns.length ≤ 63) (hS : SqL W.K H a (ns.map V.int)) (h : Good (F f [.scr ns])) (E : XK) : spF W F f [.ref a] H (fun v _ => v = .bl true) E := by
  refine ⟨noZ, fun _ => none, [.scr ns], fun p k e => (by cases e), fun p z => z.elim, .cons (.scr ?_ hl) .nil, T.wp_imp h.w fun d hd G' H' v _ _ r => ?_⟩
  · rcases hS with hS | hS
    · refine .inr ⟨.inl hS, rfl, fun z => z, ?_⟩
      rcases hS with e | ⟨o, e⟩ <;> (rw [e]; rfl)
    · exact .inl fun _ => .inr hS
  · subst hd
    cases r
    rfl
end
end Fm

/-! FmU: where draws come from. -/
namespace Fm
open PySem PySem.Spec PyProof.Rows L2
section
variable {W : Wd} {Z Z' : Addr → Prop} {G G' : Gh} {H H' : Hp}
def Kp (o : HO) : Prop := (∃ xs, o = .tup xs) ∨ ∃ C dx n t u l, o = .ins C dx (crowdF n t u l)
theorem Kp.nl {o : HO} (h : Kp o) (xs : List V) : o ≠ .lst xs := fun e => by
  rcases h with ⟨ys, h⟩ | ⟨C, dx, n, t, u, l, h⟩ <;> (rw [e] at h; cases h)
/-- what holds no list needs only this of what goes on -/
structure Go (G : Gh) (H : Hp) (G' : Gh) (H' : Hp) : Prop where
  ob : ∀ q o, H q = some o → G q = none → Kp o → H' q = some o ∧ G' q = none
  gl : ∀ q n ts ns, G q = some (.looked n ts ns) → G' q = some (.looked n ts ns)
mutual
theorem Rel.go (g : Go G H G' H') : ∀ {v : V} {d : D}, Rel W Z G H v d → d.flat = true → Rel W Z' G' H' v d
  | _, _, .non, _ => .non
  | _, _, .bl b, _ => .bl b
  | _, _, .int i, _ => .int i
  | _, _, .str s, _ => .str s
  | _, _, .tup h g1 r, f => by
    have z := g.ob _ _ h g1 (.inl ⟨_, rfl⟩)
    exact .tup z.1 z.2 (RelL.go g r (by rw [flat_tup] at f; exact f))
  | _, _, .lst _ _ _ _, f => by cases f
  | _, _, .hand _, f => by cases f
  | _, _, .tape _, f => by cases f
  | _, _, .emp _ _, f => by cases f
  | _, _, .scr _ _, f => by cases f
  | _, _, .crowd (ts := ts) (ns := ns) h g1 l r1 r2, _ => by
    have z := g.ob _ _ h g1 (.inr ⟨_, _, _, _, _, _, rfl⟩)
    exact .crowd z.1 z.2 (g.gl _ _ _ _ l) (Rel.go g r1 (tiesD_flat ts)) (Rel.go g r2 (needsD_flat ns))
theorem RelL.go (g : Go G H G' H') : ∀ {vs : List V} {ds : List D}, RelL W Z G H vs ds → ds.all D.flat = true → RelL W Z' G' H' vs ds
  | _, _, .nil, _ => .nil
  | _, _, .cons r t, f => by
    rw [List.all_cons, Bool.and_eq_true] at f
    exact .cons (Rel.go g r f.1) (RelL.go g t f.2)
end
theorem GOk.go (g : Go G H G' H') {q : Addr} {k : GK} (hq : H' q = H q) (ht : ∀ c cs, G c = some (.tape cs) → G' c = some (.tape cs)) (h : GOk W G H q k) : GOk W G' H' q k := by
  cases k with
  | looked n ts ns =>
    obtain ⟨kvs, h, l, r⟩ := h
    refine ⟨kvs, hq.trans h, l, fun kv hk => ?_⟩
    obtain ⟨s, d, e1, e2, f, rr⟩ := r kv hk
    exact ⟨s, d, e1, e2, f, rr.go g f⟩
  | hand =>
    obtain ⟨c, cells, i, r, m, t, h, hc, rest⟩ := h
    exact ⟨c, cells, i, r, m, t, hq.trans h, ht _ _ hc, rest⟩
  | tape cells => exact hq.trans h
def del (G : Gh) (p : Addr) : Gh := fun q => if q = p then none else G q
def delH (H : Hp) (p : Addr) : Hp := fun q => if q = p then none else H q
def putG (G : Gh) (p : Addr) (k : GK) : Gh := fun q => if q = p then some k else G q
theorem del_ne {p q : Addr} (h : q ≠ p) : del G p q = G q := if_neg h
theorem putG_ne {p q : Addr} {k : GK} (h : q ≠ p) : putG G p k q = G q := if_neg h
theorem delH_ne {p q : Addr} (h : q ≠ p) : delH H p q = H q := if_neg h
def handD (cs : List Int) (i r m t : Int) : D := .cell [.tape cs, .int i, .int r, .int m, .int t]
/-- drawing: the hand's list as the callee's own -/
theorem draw_start {N : List Str} {p : Addr} {many : Int} (gi : GInv W G H) (zo : ZOk Z G H) (hp : G p = some .hand) (hN : 2 ≤ N.length) :
    ∃ cs i r m t, cs.length ≤ 63 ∧ (∀ x ∈ cs, 0 ≤ x) ∧ 0 ≤ i ∧ 0 ≤ r ∧ 0 ≤ m ∧ 0 ≤ t ∧
      FS W Z (del G p) (delH H p) (fun q => Z q ∨ q = p) (del G p) H (envOf N [handD cs i r m t, .int many]) (L2.start N [.ref p, .int many]) := by
  obtain ⟨c, cs, i, r, m, t, h, hc, hl, hx, h1, h2, h3, h4⟩ := gi p _ hp
  refine ⟨cs, i, r, m, t, hl, hx, h1, h2, h3, h4, ?_⟩
  have hcp : c ≠ p := fun e => by rw [e, hp] at hc; cases hc
  have go : Go G H (del G p) H := ⟨fun q o e g1 _ => ⟨e, by
    have n : q ≠ p := fun z => by rw [z, hp] at g1; cases g1
    rw [del_ne n]
    exact g1⟩, fun q n ts ns e => by
    have n : q ≠ p := fun z => by rw [z, hp] at e; cases e
    rw [del_ne n]
    exact e⟩
  have gi' : GInv W (del G p) H := fun q k e => by
    have n : q ≠ p := fun z => by rw [z] at e; unfold del at e; rw [if_pos rfl] at e; cases e
    rw [del_ne n] at e
    refine (gi q k e).go go rfl fun c cs e => ?_
    have n : c ≠ p := fun z => by rw [z, hp] at e; cases e
    rw [del_ne n]
    exact e
  have gp : del G p p = none := if_pos rfl
  have zn : ∀ q, Z q → q ≠ p := fun q z e => by
    rw [e] at z
    rw [(zo p z).2] at hp
    cases hp
  have rl : RelL W (fun q => Z q ∨ q = p) (del G p) H [.ref c, .int i, .int r, .int m, .int t] [.tape cs, .int i, .int r, .int m, .int t] :=
    .cons (.tape (by rw [del_ne hcp]; exact hc)) (.cons (.int i) (.cons (.int r) (.cons (.int m) (.cons (.int t) .nil))))
  have hcell : RelS W (fun q => Z q ∨ q = p) (del G p) H (.ref p) (handD cs i r m t) := ⟨p, _, rfl, h, .inr rfl, rl⟩
  have hget : ∀ {j : Nat} {d : D}, (envOf N [handD cs i r m t, .int many])[j]? = some (some d) → (j = 0 ∧ d = handD cs i r m t) ∨ (j = 1 ∧ d = .int many) := fun {j d} e => by
    have e := env_get e
    match j, e with
    | 0, e => exact .inl ⟨rfl, (Option.some.inj e).symm⟩
    | 1, e => exact .inr ⟨rfl, (Option.some.inj e).symm⟩
    | j + 2, e => cases e
  refine ⟨⟨?_, gi', fun q z => ?_, fun j d e => ?_, fun j l xs ys q e1 e2 _ _ => ?_⟩, ⟨fun _ _ h => h, fun q o e g1 => ?_⟩, fun q z => .inl z, fun q z => ?_, fun j xs q e1 e2 => ?_, fun q z => z.imp id fun e => (by rw [e]; exact if_pos rfl)⟩
  · unfold envOf L2.start
    rw [List.length_append, List.length_append, List.length_map, List.length_map, List.length_replicate, List.length_replicate]
    exact Nat.le_refl _
  · rcases z with z | z
    · refine ⟨(zo q z).1, ?_⟩
      rw [del_ne (zn q z)]
      exact (zo q z).2
    · rw [z]
      exact ⟨⟨_, h⟩, gp⟩
  · rcases hget e with ⟨rfl, rfl⟩ | ⟨rfl, rfl⟩
    · exact ⟨.ref p, start_get rfl, hcell⟩
    · exact ⟨.int many, start_get rfl, (Rel.int many).s⟩
  · rcases hget e1 with ⟨rfl, _⟩ | ⟨rfl, z⟩
    · rcases hget e2 with ⟨rfl, _⟩ | ⟨rfl, z⟩
      · rfl
      · cases z
    · cases z
  · have n : q ≠ p := fun z => by
      rw [z] at e
      unfold delH at e
      rw [if_pos rfl] at e
      cases e
    rw [delH_ne n] at e
    exact ⟨e, g1⟩
  · rw [del_ne (zn q z), delH_ne (zn q z)]
    exact zo q z
  · rcases hget e1 with ⟨rfl, _⟩ | ⟨rfl, z⟩
    · have e3 : (L2.start N [.ref p, .int many])[0]? = some (some (.ref p)) := start_get rfl
      rw [e3] at e2
      cases e2
      exact if_pos rfl
    · cases z
/-- .. and back -/
theorem draw_end {Z1 : Addr → Prop} {G1 : Gh} {H1 : Hp} {env : Env} {σ : L2.St} {p : Addr} {cs : List Int} {i r m t : Int} (gi : GInv W G H) (hp : G p = some .hand) (hl : cs.length ≤ 63) (hx : ∀ x ∈ cs, 0 ≤ x) (h1 : 0 ≤ i) (h2 : 0 ≤ r) (h3 : 0 ≤ m) (h4 : 0 ≤ t)
    (f : FS W Z (del G p) (delH H p) Z1 G1 H1 env σ) (he : env[0]? = some (some (handD cs i r m t))) (hs : σ[0]? = some (some (.ref p))) : Ext G H (putG G1 p .hand) H1 ∧ GInv W (putG G1 p .hand) H1 := by
  obtain ⟨vs, hv, gp, zp, rl⟩ := f.s.place he hs
  have nt : ∀ c cs, G1 c = some (.tape cs) → c ≠ p := fun c cs e z => by rw [z, gp] at e; cases e
  refine ⟨⟨fun q k e => ?_, fun q o e g1 => ?_⟩, fun q k e => ?_⟩
  · by_cases n : q = p
    · subst n
      rw [hp] at e
      cases e
      exact if_pos rfl
    · rw [putG_ne n]
      exact f.e.gh q k (by rw [del_ne n]; exact e)
  · have n : q ≠ p := fun z => by rw [z, hp] at g1; cases g1
    rw [putG_ne n]
    exact f.e.ob q o (by rw [delH_ne n]; exact e) (by rw [del_ne n]; exact g1)
  · by_cases n : q = p
    · subst n
      unfold putG at e
      rw [if_pos rfl] at e
      cases e
      cases rl with
      | cons r1 t1 =>
        cases r1 with
        | @tape c _ hc =>
          cases t1 with
          | cons r2 t2 =>
            cases r2
            cases t2 with
            | cons r3 t3 =>
              cases r3
              cases t3 with
              | cons r4 t4 =>
                cases r4
                cases t4 with
                | cons r5 t5 =>
                  cases r5
                  cases t5
                  exact ⟨c, cs, i, r, m, t, hv, by rw [putG_ne (nt c cs hc)]; exact hc, hl, hx, h1, h2, h3, h4⟩
    · rw [putG_ne n] at e
      refine (f.s.gi q k e).go ⟨fun q o e g1 nl => ?_, fun q n ts ns e => ?_⟩ rfl fun c cs e => ?_
      · have n : q ≠ p := fun z => by
          rw [z, hv] at e
          exact nl.nl vs (Option.some.inj e).symm
        rw [putG_ne n]
        exact ⟨e, g1⟩
      · have n : q ≠ p := fun z => by rw [z, gp] at e; cases e
        rw [putG_ne n]
        exact e
      · rw [putG_ne (nt c cs e)]
        exact e
end
end Fm

/-! FmV: drawing. -/
namespace Fm
open PySem PySem.Spec PyProof.Rows L2
theorem eqD_int (a b : Int) : eqD (.int a) (.int b) = .ret (decide (a = b)) := by
  have h1 : (SeqAt.shaped (D.int a).toP && SeqAt.shaped (D.int b).toP) = true := rfl
  unfold eqD
  rw [if_pos h1]
  have h2 : PyData.eqv (D.int a).toP (D.int b).toP = (a == b) := rfl
  rw [h2]
  congr 1
theorem bind_ret' {α β : Type} (a : α) (f : α → T β) : (T.ret a >>= f) = f a := rfl
theorem getv_some {env : Env} {i : Nat} {d : D} (h : env[i]? = some (some d)) : getv env i = .ret d := by
  unfold getv
  rw [h]
def sMix (mix : E) : S := .ite (.and (.op .eq (.ix (.var 0) (.int 2)) (.int 0)) (.op .lt (.ix (.var 0) (.int 1)) (.blt .len (.cons (.ix (.var 0) (.int 0)) .nil))))
 (.cons (.set (.one 3) (.ix (.ix (.var 0) (.int 0)) (.ix (.var 0) (.int 1))))
 (.cons (.seti 0 (.int 1) (.op .add (.ix (.var 0) (.int 1)) (.int 1)))
 (.cons (.seti 0 (.int 3) (.op .mod (.blt .int (.cons mix .nil)) (.int 2147483629)))
 (.cons (.ite (.op .ge (.var 3) (.op .pow (.int 10) (.int 18)))
 (.cons (.seti 0 (.int 2) (.var 3))
 .nil)
 .nil)
 .nil))))
 .nil
def sRest : S := (.cons (.ite (.op .gt (.ix (.var 0) (.int 2)) (.int 0))
 (.cons (.set (.one 4) (.op .mod (.blt .int (.cons (.ix (.var 0) (.int 2)) .nil)) (.var 1)))
 (.cons (.seti 0 (.int 2) (.op .fdiv (.ix (.var 0) (.int 2)) (.var 1)))
 (.cons (.ret (.var 4))
 .nil)))
 .nil)
 (.cons (.seti 0 (.int 4) (.op .add (.ix (.var 0) (.int 4)) (.int 1)))
 (.cons (.set (.one 2) (.op .mod (.blt .int (.cons (.op .mul (.blt .int (.cons (.op .add (.ix (.var 0) (.int 3)) (.op .mul (.int 7919) (.ix (.var 0) (.int 4)))) .nil)) (.int 48271)) .nil)) (.int 2147483647)))
 (.cons (.set (.one 2) (.op .mod (.blt .int (.cons (.op .mul (.var 2) (.op .add (.op .fdiv (.var 2) (.int 1009)) (.int 69621))) .nil)) (.int 2147483647)))
 (.cons (.set (.one 2) (.op .mod (.blt .int (.cons (.op .mul (.var 2) (.op .add (.op .fdiv (.var 2) (.int 2003)) (.int 40692))) .nil)) (.int 2147483399)))
 (.cons (.ret (.op .mod (.blt .int (.cons (.op .fdiv (.var 2) (.int 16)) .nil)) (.var 1)))
 .nil))))))
def sDraw (mix : E) : S := .cons (sMix mix) sRest
def hx (cs : List Int) (i r m t : Int) : List D := [.tape cs, .int i, .int r, .int m, .int t]
theorem ix0 (cs : List Int) (i r m t : Int) : ixD (handD cs i r m t) (.int 0) = .ret (.tape cs) := rfl
theorem ix1 (cs : List Int) (i r m t : Int) : ixD (handD cs i r m t) (.int 1) = .ret (.int i) := rfl
theorem ix2 (cs : List Int) (i r m t : Int) : ixD (handD cs i r m t) (.int 2) = .ret (.int r) := rfl
theorem ix3 (cs : List Int) (i r m t : Int) : ixD (handD cs i r m t) (.int 3) = .ret (.int m) := rfl
theorem ix4 (cs : List Int) (i r m t : Int) : ixD (handD cs i r m t) (.int 4) = .ret (.int t) := rfl
def denv (cs : List Int) (i r m t n : Int) (a b c : Option D) : Env := [some (handD cs i r m t), some (.int n), a, b, c]
theorem dmod {a b : Int} (h : 0 < b) : op2 .mod (.int a) (.int b) = .ret (.int (a % b)) := if_pos h
theorem ddiv {a b : Int} (h : 0 < b ∧ b < 1073741824) : op2 .fdiv (.int a) (.int b) = .ret (.int (a / b)) := if_pos h
theorem dadd (a b : Int) : op2 .add (.int a) (.int b) = .ret (.int (a + b)) := rfl
theorem dlt (a b : Int) : op2 .lt (.int a) (.int b) = .ret (.bl (decide (a < b))) := rfl
theorem dgt (a b : Int) : op2 .gt (.int a) (.int b) = .ret (.bl (decide (b < a))) := rfl
theorem dge (a b : Int) : op2 .ge (.int a) (.int b) = .ret (.bl (decide (b ≤ a))) := rfl
theorem dle (a b : Int) : op2 .le (.int a) (.int b) = .ret (.bl (decide (a ≤ b))) := rfl
theorem deq (a b : Int) : op2 .eq (.int a) (.int b) = .ret (.bl (decide (a = b))) := by
  show (eqD (.int a) (.int b) >>= fun c => T.ret (D.bl c)) = _
  rw [eqD_int]
  rfl
theorem dmulL {a b : Int} (h : -(2 ^ 64) < a ∧ a < 2 ^ 64) : op2 .mul (.int a) (.int b) = .ret (.int (a * b)) := by
  show (if ((decide (-(2 ^ 64) < a) && decide (a < 2 ^ 64)) || (decide (-(2 ^ 64) < b) && decide (b < 2 ^ 64))) = true then T.ret (D.int (a * b)) else T.bad) = _
  rw [if_pos (by rw [decide_eq_true h.1, decide_eq_true h.2]; rfl)]
theorem dmulR {a b : Int} (h : -(2 ^ 64) < b ∧ b < 2 ^ 64) : op2 .mul (.int a) (.int b) = .ret (.int (a * b)) := by
  show (if ((decide (-(2 ^ 64) < a) && decide (a < 2 ^ 64)) || (decide (-(2 ^ 64) < b) && decide (b < 2 ^ 64))) = true then T.ret (D.int (a * b)) else T.bad) = _
  rw [if_pos (by rw [decide_eq_true h.1, decide_eq_true h.2, Bool.and_true, Bool.or_true])]
theorem asB_bl (b : Bool) : asB (.bl b) = .ret b := rfl
theorem own_int (e : E) (i : Int) : own e (.int i) = .ret (.int i) := by
  unfold own
  cases e.fresh <;> rfl
theorem chkC_int (i : Int) : chkC (.int i) = .ret (.int i) := rfl
theorem bint (i : Int) : bltin .int [.int i] = .ret (.int i) := rfl
theorem g0 {cs : List Int} {i r m t n : Int} {a b c : Option D} : getv (denv cs i r m t n a b c) 0 = .ret (handD cs i r m t) := rfl
theorem g1 {cs : List Int} {i r m t n : Int} {a b c : Option D} : getv (denv cs i r m t n a b c) 1 = .ret (.int n) := rfl
theorem g2 {cs : List Int} {i r m t n : Int} {a : D} {b c : Option D} : getv (denv cs i r m t n (some a) b c) 2 = .ret a := rfl
theorem g3 {cs : List Int} {i r m t n : Int} {a : D} {b c : Option D} : getv (denv cs i r m t n c (some a) b) 3 = .ret a := rfl
theorem g4 {cs : List Int} {i r m t n : Int} {a : D} {b c : Option D} : getv (denv cs i r m t n b c (some a)) 4 = .ret a := rfl
theorem s2 {cs : List Int} {i r m t n : Int} {a b c : Option D} {x : Option D} : (denv cs i r m t n a b c).set 2 x = denv cs i r m t n x b c := rfl
theorem s3 {cs : List Int} {i r m t n : Int} {a b c : Option D} {x : Option D} : (denv cs i r m t n a b c).set 3 x = denv cs i r m t n a x c := rfl
theorem s4 {cs : List Int} {i r m t n : Int} {a b c : Option D} {x : Option D} : (denv cs i r m t n a b c).set 4 x = denv cs i r m t n a b x := rfl
/-- hand[j] = a number -/
theorem exec_seti {F : Fns} {cs : List Int} {i r m t n : Int} {a b c : Option D} {e : E} {v : Int} (j : Int) (h : ev F e (denv cs i r m t n a b c) = .ret (.int v)) :
    exec F (.seti 0 (.int 1) e) (denv cs i r m t n a b c) = .ret (.nx (denv cs v r m t n a b c)) ∧ exec F (.seti 0 (.int 2) e) (denv cs i r m t n a b c) = .ret (.nx (denv cs i v m t n a b c)) ∧
    exec F (.seti 0 (.int 3) e) (denv cs i r m t n a b c) = .ret (.nx (denv cs i r v t n a b c)) ∧ exec F (.seti 0 (.int 4) e) (denv cs i r m t n a b c) = .ret (.nx (denv cs i r m v n a b c)) := by
  refine ⟨?_, ?_, ?_, ?_⟩ <;> (unfold exec; rw [h]; rfl)
theorem exec_set1 {F : Fns} {env : Env} {i : Nat} {e : E} {v : Int} (h : ev F e env = .ret (.int v)) : exec F (.set (.one i) e) env = .ret (.nx (env.set i (some (.int v)))) := by
  unfold exec
  rw [h, bind_ret', own_int]
  rfl
theorem exec_nx {F : Fns} {a as : S} {env env' : Env} (h : exec F a env = .ret (.nx env')) : exec F (.cons a as) env = exec F as env' := by
  show (exec F a env >>= _) = _
  rw [h]
  rfl
theorem exec_rt {F : Fns} {a as : S} {env env' : Env} {d : D} (h : exec F a env = .ret (.rt d env')) : exec F (.cons a as) env = .ret (.rt d env') := by
  show (exec F a env >>= _) = _
  rw [h]
  rfl
theorem exec_if {F : Fns} {e : E} {a b : S} {env : Env} {k : Bool} (h : ev F e env = .ret (.bl k)) : exec F (.ite e a b) env = if k = true then exec F a env else exec F b env := by
  show (ev F e env >>= fun x => asB x >>= fun k => if k = true then exec F a env else exec F b env) = _
  rw [h]
  rfl
theorem exec_ret {F : Fns} {e : E} {env : Env} {d : D} (h : ev F e env = .ret d) (hn : e.fresh = false) : exec F (.ret e) env = .ret (.rt d env) := by
  show (ev F e env >>= fun d => retT e d >>= fun d => T.ret (R.rt d env)) = _
  rw [h]
  show (retT e d >>= _) = _
  unfold retT
  rw [hn]
  rfl
theorem ev_op {F : Fns} {o : O2} {a b : E} {env : Env} {x y : D} (h1 : ev F a env = .ret x) (h2 : ev F b env = .ret y) : ev F (.op o a b) env = op2 o x y := by
  show (ev F a env >>= fun x => ev F b env >>= fun y => op2 o x y) = _
  rw [h1, bind_ret', h2]
  rfl
theorem ev_int1 {F : Fns} {a : E} {env : Env} {i : Int} (h1 : ev F a env = .ret (.int i)) : ev F (.blt .int (.cons a .nil)) env = .ret (.int i) := by
  show (evs F (.cons a .nil) env >>= fun ds => bltin .int ds) = _
  have e : evs F (.cons a .nil) env = .ret [.int i] := by
    show (ev F a env >>= fun x => evs F .nil env >>= fun xs => T.ret (x :: xs)) = _
    rw [h1]
    rfl
  rw [e]
  rfl
/-- the tail: a digit, or a number of its own -/
theorem rest_pure {F : Fns} {cs : List Int} {i r m t n : Int} {a b c : Option D} (hn : 0 < n ∧ n < 1073741824) (hi : 0 ≤ i) (hr : 0 ≤ r) (hm : 0 ≤ m) (ht : 0 ≤ t) :
    ∃ k r' t' a' c', exec F sRest (denv cs i r m t n a b c) = .ret (.rt (.int k) (denv cs i r' m t' n a' b c')) ∧ 0 ≤ k ∧ k < n ∧ 0 ≤ r' ∧ 0 ≤ t' := by
  have c1 : ev F (.op .gt (.ix (.var 0) (.int 2)) (.int 0)) (denv cs i r m t n a b c) = .ret (.bl (decide (0 < r))) := ev_op (x := .int r) (y := .int 0) rfl rfl
  unfold sRest
  by_cases h : 0 < r
  · refine ⟨r % n, r / n, t, a, some (.int (r % n)), ?_, Int.emod_nonneg _ (by omega), Int.emod_lt_of_pos _ hn.1, Int.ediv_nonneg hr (by omega), ht⟩
    refine exec_rt ?_
    rw [exec_if c1, if_pos (decide_eq_true h)]
    have h1 : ev F (.op .mod (.blt .int (.cons (.ix (.var 0) (.int 2)) .nil)) (.var 1)) (denv cs i r m t n a b c) = .ret (.int (r % n)) := (ev_op (ev_int1 rfl) rfl).trans (dmod hn.1)
    rw [exec_nx (exec_set1 h1), s4]
    have h2 : ev F (.op .fdiv (.ix (.var 0) (.int 2)) (.var 1)) (denv cs i r m t n a b (some (.int (r % n)))) = .ret (.int (r / n)) := (ev_op rfl rfl).trans (ddiv hn)
    rw [exec_nx (exec_seti 0 h2).2.1]
    exact exec_rt (exec_ret (d := .int (r % n)) rfl rfl)
  · rw [exec_nx (env' := denv cs i r m t n a b c) (by rw [exec_if c1, if_neg (by simpa using h)]; rfl)]
    have h1 : ev F (.op .add (.ix (.var 0) (.int 4)) (.int 1)) (denv cs i r m t n a b c) = .ret (.int (t + 1)) := ev_op (x := .int t) (y := .int 1) rfl rfl
    rw [exec_nx (exec_seti 0 h1).2.2.2]
    have h2 : ev F (.op .mod (.blt .int (.cons (.op .mul (.blt .int (.cons (.op .add (.ix (.var 0) (.int 3)) (.op .mul (.int 7919) (.ix (.var 0) (.int 4)))) .nil)) (.int 48271)) .nil)) (.int 2147483647)) (denv cs i r m (t + 1) n a b c) = .ret (.int ((m + 7919 * (t + 1)) * 48271 % 2147483647)) :=
      (ev_op (ev_int1 ((ev_op (ev_int1 (ev_op (x := .int m) (y := .int (7919 * (t + 1))) rfl ((ev_op rfl rfl).trans (dmulL (by decide))))) rfl).trans (dmulR (by decide)))) rfl).trans (dmod (by decide))
    rw [exec_nx (exec_set1 h2), s2]
    generalize hu : (m + 7919 * (t + 1)) * 48271 % 2147483647 = u
    have hu1 : 0 ≤ u ∧ u < 2147483647 := by rw [← hu]; exact ⟨Int.emod_nonneg _ (by decide), Int.emod_lt_of_pos _ (by decide)⟩
    have h3 : ev F (.op .mod (.blt .int (.cons (.op .mul (.var 2) (.op .add (.op .fdiv (.var 2) (.int 1009)) (.int 69621))) .nil)) (.int 2147483647)) (denv cs i r m (t + 1) n (some (.int u)) b c) = .ret (.int (u * (u / 1009 + 69621) % 2147483647)) :=
      (ev_op (ev_int1 ((ev_op (y := .int (u / 1009 + 69621)) rfl (ev_op (o := .add) (x := .int (u / 1009)) (y := .int 69621) ((ev_op (x := .int u) (y := .int 1009) rfl rfl).trans (ddiv (by decide))) rfl)).trans (dmulL (by omega)))) rfl).trans (dmod (by decide))
    rw [exec_nx (exec_set1 h3), s2]
    generalize hv : u * (u / 1009 + 69621) % 2147483647 = v
    have hv1 : 0 ≤ v ∧ v < 2147483647 := by rw [← hv]; exact ⟨Int.emod_nonneg _ (by decide), Int.emod_lt_of_pos _ (by decide)⟩
    have h4 : ev F (.op .mod (.blt .int (.cons (.op .mul (.var 2) (.op .add (.op .fdiv (.var 2) (.int 2003)) (.int 40692))) .nil)) (.int 2147483399)) (denv cs i r m (t + 1) n (some (.int v)) b c) = .ret (.int (v * (v / 2003 + 40692) % 2147483399)) :=
      (ev_op (ev_int1 ((ev_op (y := .int (v / 2003 + 40692)) rfl (ev_op (o := .add) (x := .int (v / 2003)) (y := .int 40692) ((ev_op (x := .int v) (y := .int 2003) rfl rfl).trans (ddiv (by decide))) rfl)).trans (dmulL (by omega)))) rfl).trans (dmod (by decide))
    rw [exec_nx (exec_set1 h4), s2]
    generalize v * (v / 2003 + 40692) % 2147483399 = x
    have h5 : ev F (.op .mod (.blt .int (.cons (.op .fdiv (.var 2) (.int 16)) .nil)) (.var 1)) (denv cs i r m (t + 1) n (some (.int x)) b c) = .ret (.int (x / 16 % n)) :=
      (ev_op (x := .int (x / 16)) (ev_int1 ((ev_op (x := .int x) (y := .int 16) rfl rfl).trans (ddiv (by decide)))) rfl).trans (dmod hn.1)
    exact ⟨x / 16 % n, r, t + 1, _, _, exec_rt (exec_ret h5 rfl), Int.emod_nonneg _ (by omega), Int.emod_lt_of_pos _ hn.1, hr, by omega⟩
/-- what is mixed in -/
structure Mix (mix : E) : Prop where
  f : ∀ (F : Fns) cs i r m t n (x : Int) a c, 0 ≤ m → 0 ≤ x → ∃ v, ev F mix (denv cs i r m t n a (some (.int x)) c) = .ret (.int v)
theorem draw_pure {F : Fns} {mix : E} (M : Mix mix) {cs : List Int} {i r m t n : Int} {a b c : Option D} (hn : 0 < n ∧ n < 1073741824) (hx : ∀ x ∈ cs, 0 ≤ x) (hi : 0 ≤ i) (hr : 0 ≤ r) (hm : 0 ≤ m) (ht : 0 ≤ t) :
    ∃ k i' r' m' t' a' b' c', exec F (sDraw mix) (denv cs i r m t n a b c) = .ret (.rt (.int k) (denv cs i' r' m' t' n a' b' c')) ∧ 0 ≤ k ∧ k < n ∧ 0 ≤ i' ∧ 0 ≤ r' ∧ 0 ≤ m' ∧ 0 ≤ t' := by
  -- the cell
  have c1 : ev F (.op .eq (.ix (.var 0) (.int 2)) (.int 0)) (denv cs i r m t n a b c) = .ret (.bl (decide (r = 0))) := (ev_op (x := .int r) (y := .int 0) rfl rfl).trans (deq r 0)
  have c2 : ev F (.op .lt (.ix (.var 0) (.int 1)) (.blt .len (.cons (.ix (.var 0) (.int 0)) .nil))) (denv cs i r m t n a b c) = .ret (.bl (decide (i < cs.length))) := ev_op (x := .int i) (y := .int cs.length) rfl rfl
  have cc : ev F (.and (.op .eq (.ix (.var 0) (.int 2)) (.int 0)) (.op .lt (.ix (.var 0) (.int 1)) (.blt .len (.cons (.ix (.var 0) (.int 0)) .nil)))) (denv cs i r m t n a b c) = .ret (.bl (decide (r = 0) && decide (i < cs.length))) := by
    show (ev F _ _ >>= fun x => asB x >>= fun k => if k = true then ev F _ _ else T.ret (.bl false)) = _
    rw [c1, bind_ret', asB_bl, bind_ret', c2]
    cases decide (r = 0) <;> rfl
  have step : ∃ i' r' m' b', exec F (sMix mix) (denv cs i r m t n a b c) = .ret (.nx (denv cs i' r' m' t n a b' c)) ∧ 0 ≤ i' ∧ 0 ≤ r' ∧ 0 ≤ m' := by
    unfold sMix
    rw [exec_if cc]
    by_cases h : (decide (r = 0) && decide (i < cs.length)) = true
    · rw [if_pos h]
      rw [Bool.and_eq_true, decide_eq_true_eq, decide_eq_true_eq] at h
      have hlt : i.toNat < cs.length := by omega
      have hat : L2.atI cs i = some cs[i.toNat] := by
        unfold L2.atI L2.ixN
        rw [if_pos hi, if_pos h.2]
        exact List.getElem?_eq_getElem hlt
      generalize hy : cs[i.toNat] = y at hat
      have hy0 : 0 ≤ y := by rw [← hy]; exact hx _ (List.getElem_mem hlt)
      have h1 : ev F (.ix (.ix (.var 0) (.int 0)) (.ix (.var 0) (.int 1))) (denv cs i r m t n a b c) = .ret (.int y) := by
        show (ixD (.tape cs) (.int i)) = _
        unfold ixD
        show (match L2.atI cs i with | some x => T.ret (D.int x) | none => T.bad) = _
        rw [hat]
      rw [exec_nx (exec_set1 h1), s3]
      have h2 : ev F (.op .add (.ix (.var 0) (.int 1)) (.int 1)) (denv cs i r m t n a (some (.int y)) c) = .ret (.int (i + 1)) := ev_op (x := .int i) (y := .int 1) rfl rfl
      rw [exec_nx (exec_seti 0 h2).1]
      obtain ⟨v, hv⟩ := M.f F cs (i + 1) r m t n y a c hm hy0
      have h3 : ev F (.op .mod (.blt .int (.cons mix .nil)) (.int 2147483629)) (denv cs (i + 1) r m t n a (some (.int y)) c) = .ret (.int (v % 2147483629)) := (ev_op (ev_int1 hv) rfl).trans (dmod (by decide))
      rw [exec_nx (exec_seti 0 h3).2.2.1]
      have hm' : 0 ≤ v % 2147483629 := Int.emod_nonneg _ (by decide)
      generalize v % 2147483629 = m' at hm'
      have h4 : ev F (.op .ge (.var 3) (.op .pow (.int 10) (.int 18))) (denv cs (i + 1) r m' t n a (some (.int y)) c) = .ret (.bl (decide (1000000000000000000 ≤ y))) := by
        refine (ev_op (y := .int 1000000000000000000) rfl ?_).trans (dge _ _)
        exact (ev_op (x := .int 10) (y := .int 18) rfl rfl).trans rfl
      by_cases hb : 1000000000000000000 ≤ y
      · have h5 : exec F (.ite (.op .ge (.var 3) (.op .pow (.int 10) (.int 18))) (.cons (.seti 0 (.int 2) (.var 3)) .nil) .nil) (denv cs (i + 1) r m' t n a (some (.int y)) c) = .ret (.nx (denv cs (i + 1) y m' t n a (some (.int y)) c)) := by
          rw [exec_if h4, if_pos (decide_eq_true hb), exec_nx (exec_seti 0 (v := y) rfl).2.1]
          rfl
        rw [exec_nx h5]
        exact ⟨i + 1, y, m', _, rfl, by omega, hy0, hm'⟩
      · have h5 : exec F (.ite (.op .ge (.var 3) (.op .pow (.int 10) (.int 18))) (.cons (.seti 0 (.int 2) (.var 3)) .nil) .nil) (denv cs (i + 1) r m' t n a (some (.int y)) c) = .ret (.nx (denv cs (i + 1) r m' t n a (some (.int y)) c)) := by
          rw [exec_if h4, if_neg (by simpa using hb)]
          rfl
        rw [exec_nx h5]
        exact ⟨i + 1, r, m', _, rfl, by omega, hr, hm'⟩
    · rw [if_neg h]
      exact ⟨i, r, m, b, rfl, hi, hr, hm⟩
  obtain ⟨i', r', m', b', e1, p1, p2, p3⟩ := step
  obtain ⟨k, r2, t2, a2, c2, e2, q1, q2, q3, q4⟩ := rest_pure (F := F) (cs := cs) (a := a) (b := b') (c := c) hn p1 p2 p3 ht
  refine ⟨k, i', r2, m', t2, a2, b', c2, ?_, q1, q2, p1, q3, p3, q4⟩
  unfold sDraw
  rw [exec_nx e1]
  exact e2
end Fm

/-! FmW: _law_hand and _law_draw keep their promises. -/
namespace Fm
open PySem PySem.Spec PyProof.Rows L2
def drawT : List D → T D
  | [.hand, .int n] => if 0 < n ∧ n < 1073741824 then T.draw n.toNat (fun i => .ret (.int (i : Nat))) else .bad
  | _ => .bad
def handT : List D → T D
  | [.scr _] => .ret .hand
  | _ => .bad
def noF : Fns := fun _ _ => .bad
theorem cn_of {W : Wd} {P : Program} {w : World} {mg : Str → Option Value} {base : Heap} {gi : List (String × Int)} {N : List Str} {qual : Str} {scope : Scope} {f : Addr} {cdv : Value} {A : Around} {outer : List Env} {s : Shared} {H : Hp} {E : XK} {kk : Nat} {ps : List Str} {outer' : List PySem.Env}
    (fa : Facts W mg gi) (S : FnScope N ps scope) (hr : Room kk (A.deeper (envOfC qual scope s.heap.objs.size f cdv))) : CnS W noF ⟨N, [], gi⟩ scope (cxOf CX0 P w W.K mg base N qual scope f cdv A outer' s H E).nox := by
  refine ⟨⟨rfl, rfl, S.nd, rfl, rfl, ?_, fun p hp => (by cases hp), fa.gi, fa.bl, fa.cls, fa.noat⟩, rfl, rfl, S.kind⟩
  have := hr.un
  show (A.deeper _).units + 100 < cLine
  omega
theorem draw_prim {W : Wd} {P : Program} {w : World} {mg : Str → Option Value} {base : Heap} {gi : List (String × Int)} {prim : Fns} {c : Nat} {d : DefS} {mix : E} (fa : Facts W mg gi) (hd : DefOk W mg [] gi d) (hname : d.name = "_law_draw") (hN : d.N.length = 5) (hps : d.ps.length = 2) (hb : d.body = sDraw mix) (M : Mix mix)
    (hprim : prim "_law_draw" = drawT) (hc : 1 ≤ c) : PrimOk W P w mg base prim c "_law_draw" := by
  obtain ⟨a, fd, x, q, params, body, scope, h1, h2, h3, h4, h5⟩ := hd.ex
  rw [hname] at h1
  refine .of (by decide) ⟨a, h1, .inl ⟨fd, d.ps, h2.kp, h3, FnOk.mono (j := 1) ?_ hc⟩⟩
  have un : ∀ {vs H Q E}, spF W prim "_law_draw" vs H Q E → ∃ Z G p n, GInv W G H ∧ ZOk Z G H ∧ vs = [.ref p, .int n] ∧ G p = some .hand ∧ (0 < n ∧ n < 1073741824) ∧ ∀ i : Nat, i < n.toNat → ∀ G' H' v, Ext G H G' H' → GInv W G' H' → Rel W Z G' H' v (.int (i : Nat)) → Q v H' := fun {vs H Q E} h => by
    obtain ⟨Z, G, ds, g, zo, r, h⟩ := h
    replace h := T.wp_imp h fun d hd G' H' v e g (r : Rel W Z G' H' v d) => hd G' H' v e g r.rr
    rw [hprim] at h
    unfold drawT at h
    split at h
    · rename_i n
      obtain ⟨hn, h⟩ := wp_if h
      cases r with
      | cons r t =>
        cases t with
        | cons r2 t2 =>
          cases t2
          cases r2
          cases r with
          | @hand p hp => exact ⟨Z, G, p, n, g, zo, rfl, hp, hn, h⟩
    · exact h.elim
  refine h2.ok (k := 0) h4 (fun vs H Q E h => ?_) fun cdv A outer s H vs Q E hr h => ⟨rdS W noF d.body, PSs.nox ?_, ?_⟩
  · obtain ⟨Z, G, p, n, _, _, rfl, _⟩ := un h
    rw [hps]
    rfl
  · exact (stmts_ok W noF ⟨d.N, [], gi⟩ d.body).2 scope _ body (cn_of (outer := []) fa h4 hr) h5
  · obtain ⟨Z, G, p, n, g, zo, rfl, hp, hn, hq⟩ := un h
    obtain ⟨cs, i, r, m, t, hl, hx, n1, n2, n3, n4, f⟩ := draw_start (N := d.N) (many := n) g zo hp (by omega)
    have he : envOf d.N [handD cs i r m t, .int n] = denv cs i r m t n none none none := by
      unfold envOf
      rw [hN]
      rfl
    obtain ⟨k, i', r', m', t', a', b', c', e1, q1, q2, q3, q4, q5, q6⟩ := draw_pure (F := noF) M (cs := cs) (a := none) (b := none) (c := none) hn hx n1 n2 n3 n4
    refine ⟨_, _, _, _, _, _, f, ?_⟩
    rw [hb, he, e1]
    intro Z1 G1 H1 σ1 v ev f1 rv
    have hs : σ1[0]? = some (some (.ref p)) := by
      rw [ev.plc 0 (by simp [sDraw, sMix, sRest, S.touch, dbl, Tg.is])]
      exact start_get rfl
    obtain ⟨e2, g2⟩ := draw_end g hp hl hx q3 q4 q5 q6 f1 rfl hs
    cases rv
    have z := hq k.toNat (by omega) _ H1 (.int k) e2 g2
    rw [show ((k.toNat : Nat) : Int) = k from by omega] at z
    exact z (.int k)
theorem chkSs_cons {k : Kn} {sc : Scope} {a as : S} {sts : List Stmt} (h : chkSs k sc (.cons a as) sts = true) : ∃ st rest, sts = st :: rest ∧ chkS k sc a st = true ∧ chkSs k sc as rest = true := by
  unfold chkSs at h
  cases sts with
  | nil => cases h
  | cons st rest =>
    obtain ⟨h1, h2⟩ := Bool.and_eq_true_iff.mp h
    exact ⟨st, rest, rfl, h1, h2⟩
theorem chkSs_nil {k : Kn} {sc : Scope} {sts : List Stmt} (h : chkSs k sc .nil sts = true) : sts = [] := by
  unfold chkSs at h
  cases sts with
  | nil => rfl
  | cons st rest => cases h
theorem chkS_ret {k : Kn} {sc : Scope} {e : E} {st : Stmt} (h : chkS k sc (.ret e) st = true) : ∃ x pos, st = .Return (some x) pos ∧ chkE k e sc none x = true := by
  unfold chkS at h
  cases st <;> first | (cases h; done) | skip
  rename_i v pos
  cases v <;> first | (cases h; done) | skip
  exact ⟨_, _, rfl, h⟩
theorem chkE_lst {k : Kn} {sc : Scope} {m : E} {t : Option Expr} {e : Expr} (h : chkE k (.lst m) sc t e = true) : ∃ es pos, e = .List es pos ∧ chkEs k m sc es = true := by
  unfold chkE at h
  cases e <;> first | (cases h; done) | skip
  exact ⟨_, _, rfl, h⟩
theorem evs_cons {F : Fns} {a as : E} {env : Env} {x : D} {xs : List D} (h1 : ev F a env = .ret x) (h2 : evs F as env = .ret xs) : evs F (.cons a as) env = .ret (x :: xs) := by
  show (ev F a env >>= fun x => evs F as env >>= fun xs => T.ret (x :: xs)) = _
  rw [h1, bind_ret', h2]
  rfl
/-! ### _law_hand -/
def sHand (m4 : E) : S := (.cons (.set (.one 1) (.lc (.one 2) [2] (.sl (.var 0) .nil (.int 63)) .nil (.blt .abs (.cons (.blt .int (.cons (.var 2) .nil)) .nil))))
 (.cons (.ret (.lst (.cons (.var 1) (.cons (.int 0) (.cons (.int 0) (.cons m4 (.cons (.int 0) .nil)))))))
 .nil))
def aHand (m4 : E) : E := (.cons (.var 1) (.cons (.int 0) (.cons (.int 0) (.cons m4 (.cons (.int 0) .nil)))))
structure MixH (m4 : E) : Prop where
  f : ∀ (F : Fns) (xs : List D) (a : Option D), ∃ v, 0 ≤ v ∧ ev F m4 [a, some (.cell xs), none] = .ret (.int v)
theorem lcT_map {α : Type} {step : D → T (Option D)} {f : α → D} {g : α → D} : ∀ {l : List α}, (∀ x ∈ l, step (f x) = .ret (some (g x))) → lcT step (l.map f) = .ret (l.map g)
  | [], _ => rfl
  | x :: l, h => by
    show (step (f x) >>= fun o => lcT step (l.map f) >>= fun rest => T.ret (match o with | some y => y :: rest | none => rest)) = _
    rw [h x List.mem_cons_self, bind_ret', lcT_map fun y hy => h y (List.mem_cons_of_mem _ hy)]
    rfl
def absI (a : Int) : Int := if a < 0 then -a else a
theorem hand_first {F : Fns} {ns : List Int} : ∃ l : List Int, l.length ≤ ns.length ∧ exec F (.set (.one 1) (.lc (.one 2) [2] (.sl (.var 0) .nil (.int 63)) .nil (.blt .abs (.cons (.blt .int (.cons (.var 2) .nil)) .nil)))) [some (.scr ns), none, none] =
    .ret (.nx [some (.scr ns), some (.cell ((l.map absI).map D.int)), none]) := by
  refine ⟨(ns.drop (HT.sIx ns.length 0 none)).take (HT.sIx ns.length ns.length (some 63) - HT.sIx ns.length 0 none), ?_, ?_⟩
  · rw [List.length_take, List.length_drop]
    omega
  · generalize hl : (ns.drop (HT.sIx ns.length 0 none)).take (HT.sIx ns.length ns.length (some 63) - HT.sIx ns.length 0 none) = l
    have e1 : ev F (.sl (.var 0) .nil (.int 63)) [some (.scr ns), none, none] = .ret (.lst (l.map D.int)) := by
      show T.ret (D.lst (cutD (ns.map D.int) none (some 63))) = _
      unfold cutD
      rw [List.length_map, ← hl, List.map_take, List.map_drop]
    have e2 : ev F (.lc (.one 2) [2] (.sl (.var 0) .nil (.int 63)) .nil (.blt .abs (.cons (.blt .int (.cons (.var 2) .nil)) .nil))) [some (.scr ns), none, none] = .ret (.lst ((l.map absI).map D.int)) := by
      rw [ev_lc, e1, bind_ret']
      show (lcT (lcStep F (.one 2) [2] .nil (.blt .abs (.cons (.blt .int (.cons (.var 2) .nil)) .nil)) [some (.scr ns), none, none]) (l.map D.int) >>= fun ys => T.ret (D.lst ys)) = _
      rw [lcT_map (g := fun x => D.int (absI x)) (fun x _ => rfl), List.map_map]
      rfl
    show (ev F _ _ >>= fun d => own _ d >>= fun d => T.ret (R.nx ([some (.scr ns), none, none].set 1 (some d)))) = _
    rw [e2]
    rfl
theorem hand_prim {W : Wd} {P : Program} {w : World} {mg : Str → Option Value} {base : Heap} {gi : List (String × Int)} {prim : Fns} {c : Nat} {d : DefS} {m4 : E} (fa : Facts W mg gi) (hd : DefOk W mg [] gi d) (hname : d.name = "_law_hand") (hN : d.N.length = 3) (hps : d.ps.length = 1) (hb : d.body = sHand m4) (M : MixH m4)
    (hprim : prim "_law_hand" = handT) (hc : 1 ≤ c) : PrimOk W P w mg base prim c "_law_hand" := by
  obtain ⟨a, fd, x, q, params, body, scope, h1, h2, h3, h4, h5⟩ := hd.ex
  rw [hname] at h1
  rw [hb] at h5
  refine .of (by decide) ⟨a, h1, .inl ⟨fd, d.ps, h2.kp, h3, FnOk.mono (j := 1) ?_ hc⟩⟩
  have un : ∀ {vs H Q E}, spF W prim "_law_hand" vs H Q E → ∃ Z G ns, GInv W G H ∧ ZOk Z G H ∧ RelL W Z G H vs [.scr ns] ∧ ns.length ≤ 63 ∧ ∀ G' H' v, Ext G H G' H' → GInv W G' H' → Rel W Z G' H' v .hand → Q v H' := fun {vs H Q E} h => by
    obtain ⟨Z, G, ds, g, zo, r, h⟩ := h
    replace h := T.wp_imp h fun d hd G' H' v e g (r : Rel W Z G' H' v d) => hd G' H' v e g r.rr
    rw [hprim] at h
    unfold handT at h
    split at h
    · rename_i ns
      have hl : ns.length ≤ 63 := by
        cases r with
        | cons r t =>
          cases r with
          | scr _ hl => exact hl
      exact ⟨Z, G, ns, g, zo, r, hl, h⟩
    · exact h.elim
  -- the two statements
  obtain ⟨st, rest, rfl, c1, h5⟩ := chkSs_cons h5
  obtain ⟨st2, rest, rfl, h6, h5⟩ := chkSs_cons h5
  cases chkSs_nil h5
  obtain ⟨ve, pos2, rfl, h6⟩ := chkS_ret h6
  obtain ⟨es, pos, rfl, c2⟩ := chkE_lst h6
  refine h2.ok (k := 0) h4 (fun vs H Q E h => ?_) fun cdv A outer s H vs Q E hr h =>
    ⟨tSeq (rdS W noF (.set (.one 1) (.lc (.one 2) [2] (.sl (.var 0) .nil (.int 63)) .nil (.blt .abs (.cons (.blt .int (.cons (.var 2) .nil)) .nil))))) (tRet (tLst (rdA W noF (aHand m4)))), PSs.nox ?_, ?_⟩
  · obtain ⟨Z, G, ns, _, _, r, _⟩ := un h
    rw [hps, r.length]
    rfl
  · have cn := cn_of (P := P) (w := w) (base := base) (H := H) (E := E) (outer := []) (outer' := outer) fa h4 hr
    exact pss_cons ((stmts_ok W noF ⟨d.N, [], gi⟩ _).1 scope _ st cn c1) (pss_one (ps_ret (pe_lst ((all_ok W noF ⟨d.N, [], gi⟩ (aHand m4)).1.ar scope _ es cn.c c2))))
  · obtain ⟨Z, G, ns, g, zo, r, hns, hq⟩ := un h
    obtain ⟨l, hl, e1⟩ := hand_first (F := noF) (ns := ns)
    have he : envOf d.N [.scr ns] = [some (.scr ns), none, none] := by
      unfold envOf
      rw [hN]
      rfl
    have f0 := fs_start (N := d.N) (Z := noZ) g (fun p z => z.elim) (r.anti fun p z => z.elim)
    refine ⟨_, _, _, _, _, _, f0, ?_⟩
    rw [he, e1]
    intro Z1 G1 H1 σ1 ev1 f1
    obtain ⟨v, hv, e2⟩ := M.f noF ((l.map absI).map D.int) (some (.scr ns))
    refine ⟨Z1, G1, _, f1.s, ?_⟩
    have e3 : evs noF (aHand m4) [some (.scr ns), some (.cell ((l.map absI).map D.int)), none] = .ret [.cell ((l.map absI).map D.int), .int 0, .int 0, .int v, .int 0] := by
      exact evs_cons rfl (evs_cons rfl (evs_cons rfl (evs_cons e2 (evs_cons rfl rfl))))
    rw [e3]
    intro G2 H2 us ex2 g2 rp
    refine ⟨by rw [Fm.Paired.len rp]; exact Nat.le_trans (show 5 ≤ maxL by decide) line_max, fun p hp => ?_⟩
    have hve : ∃ cp, us = [.ref cp, .int 0, .int 0, .int v, .int 0] ∧ RelS W Z1 G2 H2 (.ref cp) (.cell ((l.map absI).map D.int)) := by
      cases rp with
      | cons r1 t1 =>
        cases t1 with
        | cons r2 t2 =>
          cases t2 with
          | cons r3 t3 =>
            cases t3 with
            | cons r4 t4 =>
              cases t4 with
              | cons r5 t5 =>
                cases t5
                rw [r2.int, r3.int, r4.int, r5.int]
                obtain ⟨cp, ws, rfl, rest⟩ := r1
                exact ⟨cp, rfl, cp, ws, rfl, rest⟩
    obtain ⟨cp, rfl, cp', ws, ecp, hcl, zc, rc⟩ := hve
    cases ecp
    have hws : ws = (l.map absI).map V.int := rc.ints
    rw [hws] at hcl
    have hc0 : H cp = none := (f1.zn cp zc).elim (fun z => z.elim) id
    have gc1 : G1 cp = none := (f1.s.zo cp zc).2
    have gc2 : G2 cp = none := by
      obtain ⟨ys, hy⟩ := (f1.s.zo cp zc).1
      exact (ex2.ob _ _ hy gc1).2
    have ncp : cp ≠ p := fun z => by rw [z, hp] at hcl; cases hcl
    have eAll : Ext G H G2 H2 := f1.e.trans ex2
    have hp0 : H p = none := eAll.none hp g2
    have nG : ∀ q k, G q = some k → q ≠ cp ∧ q ≠ p := fun q k e => by
      obtain ⟨o, ho, _⟩ := (g q k e).tracked
      exact ⟨fun z => (by rw [z, hc0] at ho; cases ho), fun z => (by rw [z, hp0] at ho; cases ho)⟩
    have nH : ∀ q o, H q = some o → q ≠ cp ∧ q ≠ p := fun q o e => ⟨fun z => (by rw [z, hc0] at e; cases e), fun z => (by rw [z, hp0] at e; cases e)⟩
    have go : Go G2 H2 (putG (putG G2 cp (.tape (l.map absI))) p .hand) (upd H2 p (.lst [.ref cp, .int 0, .int 0, .int v, .int 0])) := ⟨fun q o e g1 nl => by
      have n1 : q ≠ cp := fun z => by rw [z, hcl] at e; exact nl.nl _ (Option.some.inj e).symm
      have n2 : q ≠ p := fun z => by rw [z, hp] at e; cases e
      rw [putG_ne n2, putG_ne n1, upd_ne n2]
      exact ⟨e, g1⟩, fun q n ts ns e => by
      have n1 : q ≠ cp := fun z => by rw [z, gc2] at e; cases e
      have n2 : q ≠ p := fun z => by rw [z, g2.free hp] at e; cases e
      rw [putG_ne n2, putG_ne n1]
      exact e⟩
    refine hq (putG (putG G2 cp (.tape (l.map absI))) p .hand) _ (.ref p) ⟨fun q k e => ?_, fun q o e g1 => ?_⟩ (fun q k e => ?_) (.hand (if_pos rfl))
    · obtain ⟨n1, n2⟩ := nG q k e
      rw [putG_ne n2, putG_ne n1]
      exact eAll.gh q k e
    · obtain ⟨n1, n2⟩ := nH q o e
      rw [putG_ne n2, putG_ne n1, upd_ne n2]
      exact eAll.ob q o e g1
    · by_cases n2 : q = p
      · subst n2
        unfold putG at e
        rw [if_pos rfl] at e
        cases e
        refine ⟨cp, l.map absI, 0, 0, v, 0, upd_same, ?_, by rw [List.length_map]; omega, fun x hx => ?_, Int.le_refl 0, Int.le_refl 0, hv, Int.le_refl 0⟩
        · rw [putG_ne ncp]
          exact if_pos rfl
        · obtain ⟨y, _, rfl⟩ := List.mem_map.mp hx
          unfold absI
          split <;> omega
      · rw [putG_ne n2] at e
        by_cases n1 : q = cp
        · subst n1
          unfold putG at e
          rw [if_pos rfl] at e
          cases e
          show upd H2 p _ q = some (.lst ((l.map absI).map V.int))
          rw [upd_ne n2]
          exact hcl
        · rw [putG_ne n1] at e
          refine (g2 q k e).go go (upd_ne n2) fun c cs e => ?_
          have m1 : c ≠ cp := fun z => by rw [z, gc2] at e; cases e
          have m2 : c ≠ p := fun z => by rw [z, g2.free hp] at e; cases e
          rw [putG_ne m2, putG_ne m1]
          exact e
end Fm

/-! FmX: Crowd(..). -/
namespace Fm
open PySem PySem.Spec PyProof.Rows L2
/-! ### o.f = v as a target -/
def gFld (K : PySem.W.Frag) (ta : TE) (f : Str) : TG := fun v σ H Q => ta σ H fun x H2 => ∃ a C dx fs, x = .ref a ∧ H2 a = some (.ins C dx fs) ∧ Cls K C ∧ NoAttr K C f ∧ fs.length < 1000 ∧ Q σ (upd H2 a (.ins C dx (putF f v fs)))
theorem pg_fld {X : Cx} {o : Expr} {f : Str} {pos : Pos} {ta : TE} (ha : PE X o ta) : PG X (.Attribute o f pos) (gFld X.K ta f) := by
  refine ⟨fun pins s σ H v u Q I r h => ?_⟩
  show wpAny _ X.A (do
    let ov ← holding [u] (eval o X.env)
    standAt pos.atName
    holding [u, ov] (setAttr ov f u)
    release [u, ov] []) _ _ s
  refine wpAny_bind (wpAny_holding (thn (ha.run pins s σ H _ I h) fun ov s1 ⟨x, H1, I1, rx, a, C, dx, fs, ex, ea, c, n, l, q⟩ => ?_))
  subst ex
  obtain rfl : ov = Value.ref a := rx
  refine wpAny_bind (wpAny_standAt (wpAny_bind (wpAny_holding (setattr_ok I1 ea c n l r fun s3 I3 => ?_))))
  exact wpAny_release ⟨σ, _, I3, q⟩
/-! ### what it computes -/
def nxT : R → T Env
  | .nx e => .ret e
  | _ => .bad
def natsOf : List D → Option (List Nat)
  | [] => some []
  | .int i :: r => if 0 ≤ i then (natsOf r).map (i.toNat :: ·) else none
  | _ => none
def tiesOf : List D → Option (List (Nat × Nat))
  | [] => some []
  | .tup [.int a, .int b] :: r => if 0 ≤ a ∧ 0 ≤ b then (tiesOf r).map ((a.toNat, b.toNat) :: ·) else none
  | _ => none
theorem natsOf_eq : ∀ {xs : List D} {ns : List Nat}, natsOf xs = some ns → .tup xs = needsD ns
  | [], _, h => by cases h; rfl
  | .int i :: r, ns, h => by
    have h' : (if 0 ≤ i then (natsOf r).map (i.toNat :: ·) else none) = some ns := h
    by_cases hi : 0 ≤ i
    · rw [if_pos hi] at h'
      cases e : natsOf r with
      | none => rw [e] at h'; cases h'
      | some ms =>
        rw [e] at h'
        cases h'
        have z := natsOf_eq e
        unfold needsD at z ⊢
        cases z
        rw [List.map_cons, show ((i.toNat : Nat) : Int) = i from by omega]
    · rw [if_neg hi] at h'
      cases h'
  | .non :: r, ns, h => by cases h
  | .bl _ :: r, ns, h => by cases h
  | .str _ :: r, ns, h => by cases h
  | .tup _ :: r, ns, h => by cases h
  | .lst _ :: r, ns, h => by cases h
  | .cell _ :: r, ns, h => by cases h
  | .crowd _ _ _ :: r, ns, h => by cases h
  | .hand :: r, ns, h => by cases h
  | .scr _ :: r, ns, h => by cases h
  | .tape _ :: r, ns, h => by cases h
  | .emp :: r, ns, h => by cases h
theorem tiesOf_eq : ∀ {xs : List D} {ts : List (Nat × Nat)}, tiesOf xs = some ts → .tup xs = tiesD ts
  | [], _, h => by cases h; rfl
  | x :: r, ts, h => by
    unfold tiesOf at h
    split at h
    · rename_i e; cases e
    · rename_i a b r' e
      cases e
      by_cases hi : 0 ≤ a ∧ 0 ≤ b
      · rw [if_pos hi] at h
        cases e : tiesOf r with
        | none => rw [e] at h; cases h
        | some ms =>
          rw [e] at h
          cases h
          have z := tiesOf_eq e
          unfold tiesD at z ⊢
          cases z
          rw [List.map_cons, show ((a.toNat : Nat) : Int) = a from by omega, show ((b.toNat : Nat) : Int) = b from by omega]
      · rw [if_neg hi] at h
        cases h
    · cases h
def decC (env : Env) : T D := match (env[1]? : Option (Option D)), (env[2]? : Option (Option D)), (env[3]? : Option (Option D)) with
  | some (some (.int n)), some (some (.tup ts)), some (some (.tup ns)) => match tiesOf ts, natsOf ns with
    | some ts', some ns' => if 0 ≤ n then .ret (.crowd n.toNat ts' ns') else .bad
    | _, _ => .bad
  | _, _, _ => .bad
def sIf1 : S := .ite (.nt (.call "is_within" (.cons (.var 1) (.cons (.int 1) (.cons (.gint "MOST_PERSONS" 9) .nil))))) (.cons .never .nil) .nil
def sIf2 : S := .ite (.nt (.call "are_ties" (.cons (.var 1) (.cons (.var 2) .nil)))) (.cons .never .nil) .nil
def sIf3 : S := .ite (.nt (.call "are_needs" (.cons (.var 1) (.cons (.var 3) .nil)))) (.cons .never .nil) .nil
def crowdT (F : Fns) : List D → T D
  | [a, b, c] => exec F sIf1 [none, some a, some b, some c] >>= nxT >>= fun e1 => exec F sIf2 e1 >>= nxT >>= fun e2 => exec F sIf3 e2 >>= nxT >>= decC
  | _ => .bad
/-! ### the text -/
def aInit : E := .cons (.var 1) (.cons (.var 2) (.cons (.var 3) .nil))
def chkInit (k : Kn) (sc : Scope) : List Stmt → Bool
  | [a, b, c, .Assign [.Tuple [.Attribute o1 f1 _, .Attribute o2 f2 _, .Attribute o3 f3 _] _ _] (.Tuple [e1, e2, e3] _ _) _, .Assign [.Attribute o4 f4 _] (.Dict [] [] _) _] =>
    chkS k sc sIf1 a && (chkS k sc sIf2 b && (chkS k sc sIf3 c && (chkEs k aInit sc [e1, e2, e3] &&
      (chkE k (.var 0) sc none o1 && (chkE k (.var 0) sc none o2 && (chkE k (.var 0) sc none o3 && (chkE k (.var 0) sc none o4 &&
        (decide (f1 = "persons") && (decide (f2 = "ties") && (decide (f3 = "needs") && decide (f4 = "looked")))))))))))
  | _ => false
section
variable {W : Wd} {F : Fns} {k : Kn} {sc : Scope} {X : Cx}
theorem pe_self {i : Nat} {sc' : Option Expr} {e : Expr} (c : Cn W F k sc X) (h : chkE k (.var i) sc sc' e = true) : PE X e (tVar i) := by
  unfold chkE at h
  cases e <;> first | cases h | skip
  simp only [Bool.and_eq_true, decide_eq_true_eq] at h
  obtain ⟨h1, h2, h3⟩ := h
  obtain ⟨h4, h5⟩ := plain_ok h3
  exact pe_var (i := i) (by rw [c.N]; exact h1) (vis_ok c h2) h4 h5
/-- one statement, then what follows -/
theorem FS.then {Z0 : Addr → Prop} {G0 : Gh} {H0 : Hp} {Z : Addr → Prop} {G : Gh} {H : Hp} {env : Env} {σ : L2.St} {D1 : Ends} {u : TS} {s : S} {β : Type} {kk : Env → T β} {q : β → Prop} (f : FS W Z0 G0 H0 Z G H env σ) (h : (exec F s env >>= nxT >>= kk).wp q)
    (n : ∀ env1 Z1 G1 H1 σ1, EvS s.touch Z G H env σ Z1 G1 H1 env1 σ1 → FS W Z0 G0 H0 Z1 G1 H1 env1 σ1 → (kk env1).wp q → u D1 σ1 H1) : rdS W F s { D1 with nx := u D1 } σ H := by
  rw [T.bind_assoc] at h
  refine ⟨Z0, G0, H0, Z, G, env, f, T.wp_imp (T.wp_bind.mp h) fun r hr => ?_⟩
  cases r with
  | nx env1 => exact fun Z1 G1 H1 σ1 e1 f1 => n env1 Z1 G1 H1 σ1 e1 f1 hr
  | bk env1 => exact hr.elim
  | rt d env1 => exact hr.elim
end
theorem fs_start1 {W : Wd} {Z : Addr → Prop} {G : Gh} {H : Hp} {N : List Str} {v0 : V} {vs : List V} {ds : List D} (g : GInv W G H) (zo : ZOk Z G H) (r : RelL W Z G H vs ds) : FS W Z G H Z G H (none :: ds.map some) (L2.start N (v0 :: vs)) := by
  have get : ∀ {j : Nat} {d : D}, (none :: ds.map some : Env)[j]? = some (some d) → ∃ i, j = i + 1 ∧ ds[i]? = some d := fun {j d} h => by
    cases j with
    | zero => cases h
    | succ i =>
      rw [List.getElem?_cons_succ, List.getElem?_map] at h
      cases e : ds[i]? with
      | none => rw [e] at h; cases h
      | some x =>
        rw [e] at h
        exact ⟨i, rfl, e.trans (congrArg some (Option.some.inj (Option.some.inj h)))⟩
  refine ⟨⟨?_, g, zo, fun j d h => ?_, fun i j xs ys p h1 h2 _ _ => ?_⟩, Ext.refl G H, fun _ z => z, zo, fun j xs p h1 h2 => ?_, fun p z => .inl z⟩
  · unfold L2.start
    rw [List.length_append, List.length_map, List.length_cons, List.length_cons, List.length_map, r.length]
    omega
  · obtain ⟨i, rfl, hi⟩ := get h
    obtain ⟨v, hv, rv⟩ := r.getD hi
    exact ⟨v, start_get (by rw [List.getElem?_cons_succ]; exact hv), rv.s⟩
  · obtain ⟨i, rfl, hi⟩ := get h1
    obtain ⟨v, hv, rv⟩ := r.getD hi
    cases rv
  · obtain ⟨i, rfl, hi⟩ := get h1
    obtain ⟨v, hv, rv⟩ := r.getD hi
    cases rv
theorem putF_le (f : Str) (v : V) : ∀ fs : List (Str × V), (putF f v fs).length ≤ fs.length + 1
  | [] => Nat.le_refl _
  | (g, x) :: r => by
    unfold putF
    split
    · exact Nat.le_succ _
    · exact Nat.succ_le_succ (putF_le f v r)
theorem putF_lt {f : Str} {v : V} {fs : List (Str × V)} {n : Nat} (h : fs.length ≤ n) : (putF f v fs).length ≤ n + 1 := Nat.le_trans (putF_le f v fs) (Nat.succ_le_succ h)
theorem crowd_prim {W : Wd} {P : Program} {w : World} {mg : Str → Option Value} {base : Heap} {gi : List (String × Int)} {cs0 : List (String × Nat)} {fs0 : List DefS} {prim : Fns} {c : Nat} {ini : Addr} {fd : FuncData} {x q : Str} {params : Arguments} {body : List Stmt} {scope : Scope} {N ps : List Str}
    (fa : Facts W mg gi) (hd : ∀ d ∈ fs0, DefOk W mg cs0 gi d) (hfind : ∀ d ∈ fs0, findD fs0 d.name = some d) (hcs : ∀ p ∈ cs0, ∃ d ∈ fs0, d.name = p.1) (hm : mg "Crowd" = some (.ref W.C)) (M : Mk W.K W.C ini) (h2 : FunD W.K x q params body scope [] [] ini fd) (h3 : Binds W.K fd ps []) (h4 : FnScope N ps scope)
    (hN : N.length = 4) (hps : ps.length = 4) (h5 : chkInit ⟨N, cs0, gi⟩ scope body = true) (hprim : prim "Crowd" = crowdT (callF noF fs0 4)) (hc : 6 ≤ c) : PrimOk W P w mg base prim c "Crowd" := by
  refine .of (by decide) ⟨W.C, hm, .inr ⟨ini, fd, ps, fun vs H Q E => ∃ a dx vs' Hb Qc, vs = .ref a :: vs' ∧ Hb a = none ∧ Hb dx = none ∧ dx ≠ a ∧ H = upd (upd Hb dx (.own a)) a (.ins W.C dx []) ∧ spF W prim "Crowd" vs' Hb Qc E0 ∧ ∀ H2, Qc (.ref a) H2 → Q .non H2, M, h3, FnOk.mono (j := 6) ?_ hc, fun vs H Q h a dx e1 e2 e3 => ?_⟩⟩
  rotate_left 1
  · rw [List.append_nil]
    exact ⟨a, dx, vs, H, Q, rfl, e1, e2, e3, rfl, h, fun H2 h => ⟨rfl, h⟩⟩
  have un : ∀ {vs H Q E}, spF W prim "Crowd" vs H Q E → ∃ Z G a b c, GInv W G H ∧ ZOk Z G H ∧ RelL W Z G H vs [a, b, c] ∧ (crowdT (callF noF fs0 4) [a, b, c]).wp fun d => ∀ G' H' v, Ext G H G' H' → GInv W G' H' → Rel W Z G' H' v d → Q v H' := fun {vs H Q E} h => by
    obtain ⟨Z, G, ds, g, zo, r, h⟩ := h
    replace h := T.wp_imp h fun d hd G' H' v e g (r : Rel W Z G' H' v d) => hd G' H' v e g r.rr
    rw [hprim] at h
    rcases ds with _ | ⟨a, _ | ⟨b, _ | ⟨c, _ | ⟨d, ds⟩⟩⟩⟩
    · exact h.elim
    · exact h.elim
    · exact h.elim
    · exact ⟨Z, G, a, b, c, g, zo, r, h⟩
    · exact h.elim
  -- the text
  unfold chkInit at h5
  split at h5
  rotate_left 1
  · cases h5
  rename_i a1 a2 a3 o1 f1 q1 o2 f2 q2 o3 f3 q3 k1 q4 e1 e2 e3 k2 q5 q6 o4 f4 q7 q8 q9
  simp only [Bool.and_eq_true, decide_eq_true_eq] at h5
  obtain ⟨c1, c2, c3, c4, c5, c6, c7, c8, rfl, rfl, rfl, rfl⟩ := h5
  refine h2.ok (k := 5) h4 (fun vs H Q E h => ?_) fun cdv A outer s H vs Q E hr h =>
    ⟨tSeq (rdS W (callF noF fs0 4) sIf1) (tSeq (rdS W (callF noF fs0 4) sIf2) (tSeq (rdS W (callF noF fs0 4) sIf3) (tSeq (tAsg (tTup (rdA W (callF noF fs0 4) aInit)) (gTup W.K 3 (gCons (gFld W.K (tVar 0) "persons") (gCons (gFld W.K (tVar 0) "ties") (gCons (gFld W.K (tVar 0) "needs") gNil))))) (sFld W.K (tVar 0) tDNewK "looked")))), PSs.nox ?_, ?_⟩
  · obtain ⟨a, dx, vs', Hb, Qc, rfl, _, _, _, _, h, _⟩ := h
    obtain ⟨Z, G, a, b, c, _, _, r, _⟩ := un h
    rw [List.length_cons, r.length, hps]
    rfl
  · have cn : CnS W (callF noF fs0 4) ⟨N, cs0, gi⟩ scope (cxOf CX0 P w W.K mg base N q scope ini cdv A outer s H E).nox := by
      refine ⟨⟨rfl, rfl, h4.nd, rfl, rfl, ?_, fun p hp => ?_, fa.gi, fa.bl, fa.cls, fa.noat⟩, rfl, rfl, h4.kind⟩
      · have := hr.un
        show (A.deeper _).units + 100 < cLine
        omega
      · obtain ⟨g, hg, e⟩ := hcs p hp
        obtain ⟨a2, fd2, m1, m2, m3, m4⟩ := fn_lvl (P := P) (w := w) (base := base) (prim := noF) (c := 0) fa hd hfind (fun p hp => .inl (hcs p hp)) 4 g hg
        rw [← e]
        exact ⟨fun _ => ⟨a2, m1, .inl ⟨4 + 0 + 1, fd2, g.ps, hr, m2.1, m3, m4⟩⟩, fun z => absurd z (hd g hg).ne⟩
    have st := fun {m : S} {st : Stmt} => (stmts_ok W (callF noF fs0 4) ⟨N, cs0, gi⟩ m).1 scope _ st cn
    have pa := (all_ok W (callF noF fs0 4) ⟨N, cs0, gi⟩ aInit).1.ar scope _ _ cn.c c4
    have g1 := pg_fld (f := "persons") (pos := q1) (pe_self cn.c c5)
    have g2 := pg_fld (f := "ties") (pos := q2) (pe_self cn.c c6)
    have g3 := pg_fld (f := "needs") (pos := q3) (pe_self cn.c c7)
    have hsw : swS scope [.Attribute o1 "persons" q1, .Attribute o2 "ties" q2, .Attribute o3 "needs" q3] [e1, e2, e3] = some none := by
      unfold swS
      rw [if_neg (by simp)]
      by_cases hst : [e1, e2, e3].any isStar = true
      · rw [if_pos hst]
      · rw [if_neg hst]
        exact if_pos rfl
    have hw := swS_ok (env := (cxOf CX0 P w W.K mg base N q scope ini cdv A outer s H E).nox.env) (k1 := k1) (k2 := k2) (p1 := q4) (p2 := q5) h4.kind hsw
    exact pss_cons (st c1) (pss_cons (st c2) (pss_cons (st c3) (pss_cons (ps_asg (pe_tup pa) (pg_tup (n := 3) cn.c.calm (pgs_cons g1 (pgs_cons g2 (pgs_cons g3 pgs_nil)))) rfl hw) (pss_one (ps_fld (pe_self cn.c c8) pe_dnewK rfl)))))
  · obtain ⟨a, dx, vs', Hb, Qc, rfl, ea, edx, ne, rfl, h, hQ⟩ := h
    obtain ⟨Z, G, va, vb, vc, g, zo, r, hw⟩ := un h
    have ea1 : upd Hb dx (.own a) a = none := by rw [upd_ne (Ne.symm ne)]; exact ea
    have eN : Ext G Hb G (upd (upd Hb dx (.own a)) a (.ins W.C dx [])) := (Ext.new edx).trans (Ext.new ea1)
    have gN : GInv W G (upd (upd Hb dx (.own a)) a (.ins W.C dx [])) := (g.new edx).new ea1
    have f0 := fs_start1 (N := N) (v0 := .ref a) gN (zo.ext eN) (r.ext eN)
    refine f0.then hw fun env1 Z1 G1 H1 σ1 ev1 f1 hw1 => f1.then hw1 fun env2 Z2 G2 H2 σ2 ev2 f2 hw2 => f2.then hw2 fun env3 Z3 G3 H3 σ3 ev3 f3 hw3 => ?_
    have hσ : σ3[0]? = some (some (.ref a)) := by
      rw [ev3.plc 0 (by decide), ev2.plc 0 (by decide), ev1.plc 0 (by decide)]
      exact start_get rfl
    unfold decC at hw3
    split at hw3
    rotate_left 1
    · exact hw3.elim
    rename_i n ts ns en ets ens
    split at hw3
    rotate_left 1
    · exact hw3.elim
    rename_i ts' ns' hts hns
    obtain ⟨hn0, hP⟩ := wp_if hw3
    refine ⟨Z3, G3, env3, f3.s, ?_⟩
    have e4 : evs (callF noF fs0 4) aInit env3 = .ret [.int n, .tup ts, .tup ns] := evs_cons (getv_some en) (evs_cons (getv_some ets) (evs_cons (getv_some ens) rfl))
    rw [e4]
    intro G4 H4 us ex4 g4 rp
    have hus : ∃ t u, us = [.int n, .ref t, .ref u] ∧ Rel W Z3 G4 H4 (.ref t) (.tup ts) ∧ Rel W Z3 G4 H4 (.ref u) (.tup ns) := by
      cases rp with
      | cons r1 t1 =>
        cases t1 with
        | cons r2 t2 =>
          cases t2 with
          | cons r3 t3 =>
            cases t3
            rw [r1.int]
            obtain ⟨t, _, e2, _⟩ := r2.tup
            obtain ⟨u, _, e3, _⟩ := r3.tup
            subst e2
            subst e3
            exact ⟨t, u, rfl, r2, r3⟩
    obtain ⟨t, u, rfl, rt, ru⟩ := hus
    have E4 : Ext G Hb G4 H4 := eN.trans (f3.e.trans ex4)
    have ga : G a = none := g.free ea
    obtain ⟨ha4, ga4⟩ := (f3.e.trans ex4).ob a _ (show upd (upd Hb dx (.own a)) a (.ins W.C dx []) a = some (.ins W.C dx []) from upd_same) ga
    refine ⟨Nat.le_trans (show 3 ≤ maxL by decide) line_max, fun p hp => ?_⟩
    have hpa : a ≠ p := fun z => by rw [← z, ha4] at hp; cases hp
    refine ⟨p, _, rfl, .of upd_same, rfl, _, _, rfl, .ref a, hσ, a, W.C, dx, [], rfl, by rw [upd_ne hpa]; exact ha4, fa.cls, fa.noat _ (by simp), by decide, _, _, rfl, .ref a, hσ, a, W.C, dx, _, rfl, upd_same, fa.cls, fa.noat _ (by simp), Nat.lt_of_le_of_lt (putF_lt (Nat.le_refl 0)) (by decide),
      _, _, rfl, .ref a, hσ, a, W.C, dx, _, rfl, upd_same, fa.cls, fa.noat _ (by simp), Nat.lt_of_le_of_lt (putF_lt (putF_lt (Nat.le_refl 0))) (by decide), rfl, fun l hl => ⟨.ref a, hσ, a, W.C, dx, _, rfl, by rw [upd_ne (fun z => by rw [← z, upd_same] at hl; cases hl)]; exact upd_same, fa.cls, fa.noat _ (by simp), Nat.lt_of_le_of_lt (putF_lt (putF_lt (putF_lt (Nat.le_refl 0)))) (by decide), ?_⟩⟩
    have hla : l ≠ a := fun z => by rw [z, upd_same] at hl; cases hl
    have hl4 : H4 l = none ∧ l ≠ p := by
      rw [upd_ne hla, upd_ne hla, upd_ne hla] at hl
      by_cases z : l = p
      · rw [z, upd_same] at hl
        cases hl
      · rw [upd_ne z] at hl
        exact ⟨hl, z⟩
    generalize hH : upd (upd (upd (upd (upd (upd H4 p (.tup [.int n, .ref t, .ref u])) a (.ins W.C dx (putF "persons" (.int n) []))) a (.ins W.C dx (putF "ties" (.ref t) (putF "persons" (.int n) [])))) a
      (.ins W.C dx (putF "needs" (.ref u) (putF "ties" (.ref t) (putF "persons" (.int n) []))))) l (.dK [])) a (.ins W.C dx (putF "looked" (.ref l) (putF "needs" (.ref u) (putF "ties" (.ref t) (putF "persons" (.int n) []))))) = H10
    have hq : ∀ q, q ≠ a → q ≠ p → q ≠ l → H10 q = H4 q := fun q n1 n2 n3 => by
      rw [← hH, upd_ne n1, upd_ne n3, upd_ne n1, upd_ne n1, upd_ne n1, upd_ne n2]
    have ha10 : H10 a = some (.ins W.C dx (crowdF n.toNat t u l)) := by
      rw [← hH, upd_same]
      have z : ((n.toNat : Nat) : Int) = n := by omega
      unfold crowdF
      rw [z]
      rfl
    have hl10 : H10 l = some (.dK []) := by rw [← hH, upd_ne hla, upd_same]
    have Eall : Ext G Hb G4 H10 := by
      rw [← hH]
      exact ext_put (ext_put (ext_put (ext_put (ext_put (ext_put E4 (E4.none hp g4)) ea) ea) ea) (E4.none hl4.1 g4)) ea
    have gl4 : G4 l = none := g4.free hl4.1
    have go : Go G4 H4 (putG G4 l (.looked n.toNat ts' ns')) H10 := ⟨fun q o e g1 kp => by
      have n1 : q ≠ a := fun z => by
        rw [z, ha4] at e
        rcases kp with ⟨xs, k⟩ | ⟨C, dx', n', t', u', l', k⟩
        · rw [k] at e; cases e
        · rw [k] at e; cases e
      have n2 : q ≠ p := fun z => by rw [z, hp] at e; cases e
      have n3 : q ≠ l := fun z => by rw [z, hl4.1] at e; cases e
      rw [hq q n1 n2 n3, putG_ne n3]
      exact ⟨e, g1⟩, fun q n ts ns e => by
      have n3 : q ≠ l := fun z => by rw [z, gl4] at e; cases e
      rw [putG_ne n3]
      exact e⟩
    refine hQ H10 (hP (putG G4 l (.looked n.toNat ts' ns')) H10 (.ref a) ⟨fun q kk e => ?_, fun q o e g1 => ?_⟩ (fun q kk e => ?_) (.crowd ha10 ?_ (if_pos rfl) ?_ ?_))
    · have n3 : q ≠ l := fun z => by rw [z, g.free (E4.none hl4.1 g4)] at e; cases e
      rw [putG_ne n3]
      exact Eall.gh q kk e
    · have n3 : q ≠ l := fun z => by rw [z, E4.none hl4.1 g4] at e; cases e
      rw [putG_ne n3]
      exact Eall.ob q o e g1
    · by_cases n3 : q = l
      · subst n3
        unfold putG at e
        rw [if_pos rfl] at e
        cases e
        exact ⟨[], hl10, List.nodup_nil, fun kv z => by cases z⟩
      · rw [putG_ne n3] at e
        obtain ⟨o, ho, _⟩ := (g4 q kk e).tracked
        have n1 : q ≠ a := fun z => by rw [z, ga4] at e; cases e
        have n2 : q ≠ p := fun z => by rw [z, hp] at ho; cases ho
        refine (g4 q kk e).go go (hq q n1 n2 n3) fun c cs e => ?_
        have m3 : c ≠ l := fun z => by rw [z, gl4] at e; cases e
        rw [putG_ne m3]
        exact e
    · rw [putG_ne (Ne.symm hla)]
      exact ga4
    · rw [← tiesOf_eq hts]
      exact rt.go go (by rw [tiesOf_eq hts]; exact tiesD_flat ts')
    · rw [← natsOf_eq hns]
      exact ru.go go (by rw [natsOf_eq hns]; exact needsD_flat ns')
end Fm

/-! FmY: rows of lists, filled by pairs. -/
namespace Fm
open PySem PySem.Spec PyProof.Rows L2
def addRow (rows : List (List Nat)) (a b : Nat) : List (List Nat) := rows.set a (rows.getD a [] ++ [b])
def rowsOf (n : Nat) (ts : List (Nat × Nat)) : List (List Nat) := ts.foldl (fun r t => addRow (addRow r t.1 t.2) t.2 t.1) (List.replicate n [])
def natV (x : Nat) : V := .int (x : Nat)
def natD (x : Nat) : D := .int (x : Nat)
section
variable {W : Wd} {F : Fns} {k : Kn} {sc : Scope} {X : Cx}
variable {Z : Addr → Prop} {Gs G G' : Gh} {Hs H H' : Hp} {env env2 : Env} {σ σ2 : L2.St} {D1 : Ends}
/-- the list of lists as it stands -/
structure RI (Hs : Hp) (G : Gh) (H : Hp) (p : Addr) (refs : List Addr) (rows : List (List Nat)) (bnd : Nat) : Prop where
  lst : H p = some (.lst (refs.map V.ref))
  gp : G p = none
  hp : Hs p = none
  len : refs.length = rows.length
  at_ : ∀ (j : Nat) q row, refs[j]? = some q → rows[j]? = some row → H q = some (.lst (row.map natV)) ∧ G q = none ∧ Hs q = none ∧ q ≠ p ∧ row.length ≤ bnd
  inj : ∀ (i j : Nat) q, refs[i]? = some q → refs[j]? = some q → i = j
theorem RI.get {p : Addr} {refs : List Addr} {rows : List (List Nat)} {bnd a : Nat} (r : RI Hs G H p refs rows bnd) (h : a < rows.length) : ∃ q, refs[a]? = some q ∧ rows[a]? = some (rows.getD a []) := by
  have h2 : a < refs.length := by rw [r.len]; exact h
  refine ⟨refs[a], List.getElem?_eq_getElem h2, ?_⟩
  rw [List.getD_eq_getElem?_getD, List.getElem?_eq_getElem h]
  rfl
theorem natV_append (row : List Nat) (b : Nat) : row.map natV ++ [V.int (b : Nat)] = (row ++ [b]).map natV := by
  rw [List.map_append]
  rfl
/-- one more in a row -/
theorem RI.add {p q : Addr} {refs : List Addr} {rows : List (List Nat)} {bnd a b : Nat} (r : RI Hs G H p refs rows bnd) (g : GInv W G H) (e : Ext Gs Hs G H) (h : a < rows.length) (hq : refs[a]? = some q) :
    RI Hs G (upd H q (.lst ((rows.getD a [] ++ [b]).map natV))) p refs (addRow rows a b) (bnd + 1) ∧ GInv W G (upd H q (.lst ((rows.getD a [] ++ [b]).map natV))) ∧ Ext Gs Hs G (upd H q (.lst ((rows.getD a [] ++ [b]).map natV))) := by
  obtain ⟨q', hq', hrow⟩ := r.get h
  rw [hq] at hq'
  cases hq'
  obtain ⟨h1, h2, h3, h4, h5⟩ := r.at_ a q _ hq hrow
  refine ⟨⟨?_, r.gp, r.hp, ?_, fun j q2 row e1 e2 => ?_, r.inj⟩, ?_, ext_put e h3⟩
  · rw [upd_ne (Ne.symm h4)]
    exact r.lst
  · unfold addRow
    rw [List.length_set]
    exact r.len
  · unfold addRow at e2
    by_cases ej : a = j
    · subst ej
      rw [hq] at e1
      cases e1
      rw [List.getElem?_set_self h] at e2
      cases e2
      refine ⟨upd_same, h2, h3, h4, ?_⟩
      rw [List.length_append]
      exact Nat.succ_le_succ h5
    · rw [List.getElem?_set_ne ej] at e2
      obtain ⟨k1, k2, k3, k4, k5⟩ := r.at_ j q2 row e1 e2
      have ne : q2 ≠ q := fun z => ej (r.inj a j q hq (by rw [← z]; exact e1))
      exact ⟨by rw [upd_ne ne]; exact k1, k2, k3, k4, Nat.le_succ_of_le k5⟩
  · exact GInv.put (Z := fun z => z = q) g (fun z hz => by rw [hz]; exact ⟨⟨_, h1⟩, h2⟩) rfl
/-- fewer names known, other values stored elsewhere -/
theorem SOk.less (s : SOk W Z G H env σ) (hl : env2.length ≤ σ2.length) (h : ∀ (j : Nat) d, env2[j]? = some (some d) → env[j]? = some (some d) ∧ σ2[j]? = σ[j]?) : SOk W Z G H env2 σ2 :=
  ⟨hl, s.gi, s.zo, fun j d e => by
    obtain ⟨h1, h2⟩ := h j d e
    rw [h2]
    exact s.sl j d h1, fun i j xs ys p h1 h2 h3 h4 => by
    obtain ⟨a1, a2⟩ := h i _ h1
    obtain ⟨b1, b2⟩ := h j _ h2
    rw [a2] at h3
    rw [b2] at h4
    exact s.sep i j xs ys p a1 b1 h3 h4⟩
theorem FS.less {Z0 : Addr → Prop} {G0 : Gh} {H0 : Hp} (f : FS W Z0 G0 H0 Z G H env σ) (hl : env2.length ≤ σ2.length) (h : ∀ (j : Nat) d, env2[j]? = some (some d) → env[j]? = some (some d) ∧ σ2[j]? = σ[j]?) : FS W Z0 G0 H0 Z G H env2 σ2 :=
  ⟨f.s.less hl h, f.e, f.z, f.z0, fun i xs p h1 h2 => by
    obtain ⟨a1, a2⟩ := h i _ h1
    rw [a2] at h2
    exact f.own i xs p a1 h2, f.zn⟩
theorem atI_nat {α : Type} {xs : List α} {m : Nat} {v : α} (h : xs[m]? = some v) : atI xs (m : Nat) = some v := by
  have hl : m < xs.length := by
    by_cases hl : m < xs.length
    · exact hl
    · rw [List.getElem?_eq_none (by omega)] at h
      cases h
  unfold atI ixN
  rw [if_pos (by omega), if_pos (by omega)]
  exact h
def tApp2 (K : PySem.W.Frag) (i a b : Nat) : TS := tDrop (tBM K "list" rAppend (tOp (rIx K) (tVar i) (tVar a)) (tCons (tVar b) tNil))
/-- found[a].append(b) -/
theorem app2_in {i a b x y : Nat} {p : Addr} {refs : List Addr} {rows : List (List Nat)} {bnd : Nat} (r : RI Hs G H p refs rows bnd) (g : GInv W G H) (e : Ext Gs Hs G H) (hi : σ[i]? = some (some (.ref p))) (ha : σ[a]? = some (some (natV x))) (hb : σ[b]? = some (some (natV y)))
    (hx : x < rows.length) (hbd : bnd < maxL) (n : ∀ H', RI Hs G H' p refs (addRow rows x y) (bnd + 1) → GInv W G H' → Ext Gs Hs G H' → (∃ q ∈ refs, ∃ o, H' = upd H q o) → D1.nx σ H') : tApp2 W.K i a b D1 σ H := by
  obtain ⟨q, hq, hrow⟩ := r.get hx
  obtain ⟨h1, h2, h3, h4, h5⟩ := r.at_ x q _ hq hrow
  have hm : (refs.map V.ref)[x]? = some (.ref q) := by rw [List.getElem?_map, hq]; rfl
  refine ⟨.ref p, hi, natV x, ha, .inl ⟨p, refs.map V.ref, (x : Nat), .ref q, rfl, rfl, .of r.lst, atI_nat hm, .inl ⟨rfl, _, .of h1⟩, natV y, hb, ?_⟩⟩
  refine ⟨q, _, natV y, rfl, rfl, h1, ?_, ?_⟩
  · rw [List.length_map]
    exact Nat.lt_of_lt_of_le (Nat.lt_of_le_of_lt h5 hbd) line_max
  · obtain ⟨r', g', e'⟩ := r.add (b := y) g e hx hq
    have z : (rows.getD x []).map natV ++ [natV y] = (rows.getD x [] ++ [y]).map natV := natV_append _ _
    rw [z]
    exact n _ r' g' e' ⟨q, List.mem_of_getElem? hq, _, rfl⟩
theorem ps_app2 (c : Cn W F k sc X) {i a b : Nat} {o ea eb : Expr} {ap cp ip pos : Pos} (ho : chkE k (.var i) sc none o = true) (ha : chkE k (.var a) sc none ea = true) (hb : chkE k (.var b) sc none eb = true) (hl : (ap.endLine == cp.line) = true) :
    PS X (.Expr (.Call (.Attribute (.Subscript o ea ip) "append" ap) [eb] [] cp) pos) (tApp2 W.K i a b) := by
  have hsa : notSlice ea = true := by
    unfold chkE at ha
    cases ea <;> first | cases ha | rfl
  have hsb : notStar eb = true := by
    unfold chkE at hb
    cases eb <;> first | cases hb | rfl
  have q := pe_bm (X := X) (apos := ap) (cpos := cp) PySem.F.plainAttrs_list PySem.F.slot_list_append PySem.F.type_list_append mt_append (pe_ix (pos := ip) ix_seq (pe_self c ho) (pe_self c ha) (ix_plain hsa)) (pa_cons (pe_self c hb) pa_nil (star_ok hsb _)) rfl (by rw [star_ok hsb]; rfl) hl (star_ok hsb _) rfl
  rw [c.K] at q
  exact ps_expr q rfl
end
end Fm

/-! FmZ: found = [[] for x in range(n)]; for a, b in ties: found[a].append(b); found[b].append(a). -/
namespace Fm
open PySem PySem.Spec PyProof.Rows L2
section
variable {W : Wd} {F : Fns} {k : Kn} {sc : Scope} {X : Cx}
variable {Z Z' : Addr → Prop} {Gs G G' G1 : Gh} {Hs H H' H1 : Hp} {env env2 : Env} {σ σ1 σ2 : L2.St} {D1 : Ends}
theorem SOk.growTo (s : SOk W Z G H env σ) (g : Grow Z G H Z' G' H') (gi : GInv W G' H') (zo : ZOk Z' G' H') : SOk W Z' G' H' env σ :=
  ⟨s.len, gi, zo, fun i d h => let ⟨v, h1, r⟩ := s.sl i d h; ⟨v, h1, r.grow s g⟩, s.sep⟩
theorem rows0_in {en : E} {pp : Nat} {Q : VK} (s : SOk W Z G H env σ) (h : (ev F (.rng1 en) env >>= itsT).wp fun xs => ∀ G' H' p refs, Ext G H G' H' → GInv W G' H' → RI H G' H' p refs (List.replicate xs.length []) 0 → Q (.ref p) H') :
    tLc (rdI W F (.rng1 en)) (gTg W.K (.one pp)) (ttOf W F .nil) (rdE W F (.lst .nil)) [pp] σ H Q := by
  refine ⟨Z, G, env, s, T.wp_imp h fun ds hd G1 H1 J ks sh e1 g1 wk hks => fun Dl hD => ?_⟩
  have hlen := Paired.len wk.rel
  have s1 := s.ext e1 g1
  have hD0 : H Dl = none := e1.none hD g1
  refine ⟨fun i m H' => m = sh.length - i ∧ i ≤ sh.length ∧ ∃ G' refs, Ext G1 H1 G' H' ∧ GInv W G' H' ∧ RI H G' H' Dl refs (List.replicate i []) 0,
    ⟨sh.length, by rw [Nat.sub_zero], Nat.zero_le _, G1, [], Ext.new hD, g1.new hD, ⟨upd_same, g1.free hD, hD0, rfl, fun j q row e => (by cases e), fun i j q e => (by cases e)⟩⟩, ?_⟩
  rintro i m H' ⟨rfl, hi, G', refs, e2, g2, ri⟩
  have hk : ∀ q ∈ ks, H' q.1 = some q.2 := fun q hq => (e2.ob _ _ (wk.at_ q hq).1 (wk.at_ q hq).2).1
  by_cases hlt : i < sh.length
  · obtain ⟨c, d, hc, hdd, hdrop, rcd⟩ := Paired.get wk.rel hlt
    obtain ⟨go, yld⟩ := wk.go H' hk i c hc
    refine .inr ⟨go, fun H'' => i + 1 ≤ sh.length ∧ ∃ G' refs, Ext G1 H1 G' H'' ∧ GInv W G' H'' ∧ RI H G' H'' Dl refs (List.replicate (i + 1) []) 0,
      fun H'' hn => ⟨sh.length - (i + 1), by omega, rfl, hn⟩, fun x H2 hy => ?_⟩
    obtain ⟨e3, g3, rx⟩ := yld_ok g2 (rcd.ext e2) (yld x H2 hy)
    have hL2 := e3.ob _ _ ri.lst ri.gp
    have s3 := (s1.grow hD (e2.trans e3) g3 hL2.1 hL2.2).wiped [pp]
    refine ⟨by rw [wipe_set List.mem_cons_self, wipe_wipe], ?_⟩
    have s4 : SOk W (fun q => Z q ∨ q = Dl) G' H2 (wipeE env [pp]) ((wipe σ [pp]).set pp (some x)) := s3.less (by rw [List.length_set]; exact s3.len) fun j d e => ⟨e, List.getElem?_set_ne fun z => by
      subst z
      rw [wipeE_get, if_pos List.mem_cons_self] at e
      cases q : env[pp]? with
      | none => rw [q] at e; cases e
      | some o => rw [q] at e; cases e⟩
    unfold ttOf
    rw [if_pos (show isNil E.nil = true from rfl)]
    unfold tYes
    dsimp only
    rw [if_pos rfl]
    refine ⟨_, G', _, s4, ?_⟩
    intro G4 H4 vs q e4 g4 hq hq4 gq4 rl
    cases rl
    have e24 := e3.trans e4
    obtain ⟨hL4, gL4⟩ := e24.ob _ _ ri.lst ri.gp
    have hqD : q ≠ Dl := fun z => by rw [z, hL2.1] at hq; cases hq
    have hq0 : H q = none := (e1.trans (e2.trans e3)).none hq g3
    have hrl : refs.length = i := by rw [ri.len, List.length_replicate]
    refine ⟨refs.map V.ref, hL4, by rw [List.length_map, hrl]; exact Nat.lt_of_lt_of_le hlt wk.len, hlt, G4, refs ++ [q], ext_put (e2.trans e24) hD, GInv.put (Z := fun z => z = Dl) g4 (fun z hz => by rw [hz]; exact ⟨⟨_, hL4⟩, gL4⟩) rfl, ?_⟩
    refine ⟨by rw [upd_same, List.map_append]; rfl, gL4, hD0, by rw [List.length_append, List.length_replicate, hrl]; rfl, fun j q2 row a1 a2 => ?_, fun j l q2 a1 a2 => ?_⟩
    · have hrow : row = [] := by
        rw [List.getElem?_replicate] at a2
        split at a2
        · exact (Option.some.inj a2).symm
        · cases a2
      subst hrow
      by_cases hj : j < refs.length
      · rw [List.getElem?_append_left hj] at a1
        obtain ⟨b1, b2, b3, b4, b5⟩ := ri.at_ j q2 [] a1 (by rw [List.getElem?_replicate, if_pos (by omega)])
        obtain ⟨c1, c2⟩ := e24.ob _ _ b1 b2
        exact ⟨by rw [upd_ne b4]; exact c1, c2, b3, b4, b5⟩
      · rw [List.getElem?_append_right (by omega)] at a1
        have : q2 = q := by
          cases hz : j - refs.length with
          | zero => rw [hz] at a1; exact (Option.some.inj a1).symm
          | succ z => rw [hz] at a1; cases a1
        subst this
        exact ⟨by rw [upd_ne hqD]; exact hq4, gq4, hq0, hqD, Nat.le_refl 0⟩
    · have old : ∀ {j : Nat} {q2 : Addr}, refs[j]? = some q2 → q2 ≠ q := fun {j q2} a z => by
        have hj : j < refs.length := by
          by_cases hj : j < refs.length
          · exact hj
          · rw [List.getElem?_eq_none (by omega)] at a; cases a
        obtain ⟨b1, b2, _⟩ := ri.at_ j q2 [] a (by rw [List.getElem?_replicate, if_pos (by omega)])
        have c1 := (e3.ob _ _ b1 b2).1
        rw [z, hq] at c1
        cases c1
      have spl : ∀ {j : Nat} {q2 : Addr}, (refs ++ [q])[j]? = some q2 → (j < refs.length ∧ refs[j]? = some q2) ∨ (j = refs.length ∧ q2 = q) := fun {j q2} a => by
        by_cases hj : j < refs.length
        · rw [List.getElem?_append_left hj] at a
          exact .inl ⟨hj, a⟩
        · rw [List.getElem?_append_right (by omega)] at a
          cases hz : j - refs.length with
          | zero => rw [hz] at a; exact .inr ⟨by omega, (Option.some.inj a).symm⟩
          | succ z => rw [hz] at a; cases a
      rcases spl a1 with ⟨_, b1⟩ | ⟨b1, b2⟩
      · rcases spl a2 with ⟨_, c1⟩ | ⟨c1, c2⟩
        · exact ri.inj j l q2 b1 c1
        · exact absurd c2 (old b1)
      · rcases spl a2 with ⟨_, c1⟩ | ⟨c1, c2⟩
        · exact absurd b2 (old c1)
        · omega
  · have ei : i = sh.length := by omega
    subst ei
    refine .inl ⟨wk.stop H' hk _ (Nat.le_refl _), hd G' H' Dl refs (e1.trans e2) g2 ?_⟩
    rw [← hlen]
    exact ri
theorem Evo.put' {p : Addr} {o : HO} (z : Z p) : Evo Z G H Z G (upd H p o) :=
  ⟨fun _ _ h => h, fun q o h g n => ⟨by rw [upd_ne fun e => n (by rw [e]; exact z)]; exact h, g, n⟩⟩
/-- one pair after another -/
def fill (rows : List (List Nat)) (ts : List (Nat × Nat)) : List (List Nat) := ts.foldl (fun r t => addRow (addRow r t.1 t.2) t.2 t.1) rows
theorem addRow_len (rows : List (List Nat)) (a b : Nat) : (addRow rows a b).length = rows.length := List.length_set ..
theorem rows_for {et : E} {i a b n : Nat} {p : Addr} {refs : List Addr} (hia : i ≠ a) (hib : i ≠ b) (hab : a ≠ b) (ha : a < σ1.length) (hb : b < σ1.length) (s : SOk W Z Gs Hs env σ) (e1 : Ext Gs Hs G1 H1) (g1 : GInv W G1 H1) (ri : RI Hs G1 H1 p refs (List.replicate n []) 0)
    (hl : env2.length ≤ σ1.length) (h2 : ∀ (j : Nat) d, env2[j]? = some (some d) → env[j]? = some (some d) ∧ σ1[j]? = σ[j]?) (hi : σ1[i]? = some (some (.ref p)))
    (h : (ev F et env2 >>= itsT).wp fun ys => ∃ ts, tiesOf ys = some ts ∧ ts.length ≤ 1000 ∧ (∀ t ∈ ts, t.1 < n ∧ t.2 < n) ∧ ∀ G' H' σ', Ext Gs Hs G' H' → GInv W G' H' → RI Hs G' H' p refs (fill (List.replicate n []) ts) 2000 → (∀ j, j ≠ a → j ≠ b → σ'[j]? = σ1[j]?) → σ'.length = σ1.length → D1.nx σ' H') :
    tFor (rdI W F et) (gTg W.K (.many [a, b])) (tSeq (tApp2 W.K i a b) (tApp2 W.K i b a)) D1 σ1 H1 := by
  have gr : Grow Z Gs Hs (fun q => Z q ∨ q = p ∨ q ∈ refs) G1 H1 := ⟨e1, fun q z => .inl z, fun q z => z.imp id fun z => by
    rcases z with z | z
    · rw [z]; exact ri.hp
    · obtain ⟨j, hj⟩ := List.getElem?_of_mem z
      have hlt : j < (List.replicate n ([] : List Nat)).length := by
        rw [← ri.len]
        by_cases q : j < refs.length
        · exact q
        · rw [List.getElem?_eq_none (by omega)] at hj; cases hj
      exact (ri.at_ j q _ hj (List.getElem?_eq_getElem hlt)).2.2.1⟩
  have refAt : ∀ {G' : Gh} {H' : Hp} {rows : List (List Nat)} {bnd : Nat}, RI Hs G' H' p refs rows bnd → ∀ q ∈ refs, ∃ row, H' q = some (.lst row) ∧ G' q = none := fun {G' H' rows bnd} r q hq => by
    obtain ⟨j, hj⟩ := List.getElem?_of_mem hq
    have hlt : j < rows.length := by
      rw [← r.len]
      by_cases q : j < refs.length
      · exact q
      · rw [List.getElem?_eq_none (by omega)] at hj; cases hj
    obtain ⟨k1, k2, _⟩ := r.at_ j q _ hj (List.getElem?_eq_getElem hlt)
    exact ⟨_, k1, k2⟩
  have zo1 : ZOk (fun q => Z q ∨ q = p ∨ q ∈ refs) G1 H1 := fun q z => by
    rcases z with z | z | z
    · exact (s.zo.ext e1) q z
    · rw [z]; exact ⟨⟨_, ri.lst⟩, ri.gp⟩
    · obtain ⟨row, k1, k2⟩ := refAt ri q z
      exact ⟨⟨_, k1⟩, k2⟩
  have s1 : SOk W (fun q => Z q ∨ q = p ∨ q ∈ refs) G1 H1 env2 σ1 := (s.growTo gr g1 zo1).less hl h2
  refine ⟨_, G1, env2, s1, T.wp_imp h fun ys hys G2 H2 J ks sh ex2 g2 wk hks => ?_⟩
  obtain ⟨ts, hts, htl, htn, fin⟩ := hys
  have hlen := Paired.len wk.rel
  have ylen : ys.length = ts.length := by
    have z := tiesOf_eq hts
    unfold tiesD at z
    cases z
    rw [List.length_map]
  have ri2 : RI Hs G2 H2 p refs (List.replicate n []) 0 := ⟨(ex2.ob _ _ ri.lst ri.gp).1, (ex2.ob _ _ ri.lst ri.gp).2, ri.hp, ri.len, fun j q row a1 a2 => by
    obtain ⟨k1, k2, k3, k4, k5⟩ := ri.at_ j q row a1 a2
    exact ⟨(ex2.ob _ _ k1 k2).1, (ex2.ob _ _ k1 k2).2, k3, k4, k5⟩, ri.inj⟩
  have e2 : Ext Gs Hs G2 H2 := e1.trans ex2
  have zl2 : ∀ q, (Z q ∨ q = p ∨ q ∈ refs) → ∃ xs, H2 q = some (.lst xs) := fun q z => ((zo1.ext ex2) q z).1
  refine ⟨fun j m σ' H' => m = sh.length - j ∧ j ≤ sh.length ∧ ∃ G', Ext Gs Hs G' H' ∧ GInv W G' H' ∧ RI Hs G' H' p refs (fill (List.replicate n []) (ts.take j)) (2 * j) ∧ Evo (fun q => Z q ∨ q = p ∨ q ∈ refs) G2 H2 (fun q => Z q ∨ q = p ∨ q ∈ refs) G' H' ∧ (∀ j, j ≠ a → j ≠ b → σ'[j]? = σ1[j]?) ∧ σ'.length = σ1.length,
    ⟨sh.length, by rw [Nat.sub_zero], Nat.zero_le _, G2, e2, g2, ri2, Evo.refl _ _ _, fun _ _ _ => rfl, rfl⟩, ?_⟩
  rintro j m σ' H' ⟨rfl, hj, G', e', g', ri', ev', hσ, hσl⟩
  have hk : ∀ q ∈ ks, H' q.1 = some q.2 := fun q hq => by
    obtain ⟨a1, a2⟩ := wk.at_ q hq
    rcases hks q hq with nz | ⟨l, hl, hcell, hσ0⟩
    · exact (ev'.ob _ _ a1 a2 nz).1
    · obtain ⟨zs, hzs⟩ := cellAt_ok hcell
      obtain ⟨b1, b2⟩ := h2 l _ hzs
      rw [b2] at hσ0
      obtain ⟨ws, c1, c2, _⟩ := s.place b1 hσ0
      have d1 := (e2.ob _ _ c1 c2).1
      rw [a1] at d1
      rw [(e'.ob _ _ c1 c2).1, ← d1]
  by_cases hlt : j < sh.length
  · obtain ⟨c, d, hc, hdd, hdrop, rcd⟩ := Paired.get wk.rel hlt
    obtain ⟨go, yld⟩ := wk.go H' hk j c hc
    refine .inr ⟨go, fun σ'' H'' => j + 1 ≤ sh.length ∧ ∃ G', Ext Gs Hs G' H'' ∧ GInv W G' H'' ∧ RI Hs G' H'' p refs (fill (List.replicate n []) (ts.take (j + 1))) (2 * (j + 1)) ∧ Evo (fun q => Z q ∨ q = p ∨ q ∈ refs) G2 H2 (fun q => Z q ∨ q = p ∨ q ∈ refs) G' H'' ∧ (∀ j, j ≠ a → j ≠ b → σ''[j]? = σ1[j]?) ∧ σ''.length = σ1.length,
      fun σ'' H'' hn => ⟨sh.length - (j + 1), by omega, rfl, hn⟩, fun x H3 hy => ?_⟩
    obtain ⟨e3, g3, rx⟩ := yld_ok g' (rcd.evo zl2 ev') (yld x H3 hy)
    have htj : j < ts.length := by omega
    have hdt : d = .tup [natD ts[j].1, natD ts[j].2] := by
      have z := tiesOf_eq hts
      unfold tiesD at z
      cases z
      rw [List.getElem?_map, List.getElem?_eq_getElem htj] at hdd
      exact (Option.some.inj hdd).symm
    subst hdt
    have ri3 : RI Hs G' H3 p refs (fill (List.replicate n []) (ts.take j)) (2 * j) := ⟨(e3.ob _ _ ri'.lst ri'.gp).1, ri'.gp, ri'.hp, ri'.len, fun j q row a1 a2 => by
      obtain ⟨k1, k2, k3, k4, k5⟩ := ri'.at_ j q row a1 a2
      exact ⟨(e3.ob _ _ k1 k2).1, k2, k3, k4, k5⟩, ri'.inj⟩
    obtain ⟨t1, t2⟩ := htn ts[j] (List.getElem_mem htj)
    have flen : ∀ (r : List (List Nat)) (l : List (Nat × Nat)), (fill r l).length = r.length := fun r l => by
      induction l generalizing r with
      | nil => rfl
      | cons t l ih =>
        show (fill (addRow (addRow r t.1 t.2) t.2 t.1) l).length = _
        rw [ih, addRow_len, addRow_len]
    have hx1 : ts[j].1 < (fill (List.replicate n []) (ts.take j)).length := by rw [flen, List.length_replicate]; exact t1
    have hx2 : ts[j].2 < (addRow (fill (List.replicate n []) (ts.take j)) ts[j].1 ts[j].2).length := by rw [addRow_len, flen, List.length_replicate]; exact t2
    have fstep : fill (List.replicate n []) (ts.take (j + 1)) = addRow (addRow (fill (List.replicate n []) (ts.take j)) ts[j].1 ts[j].2) ts[j].2 ts[j].1 := by
      unfold fill
      rw [List.take_succ_eq_append_getElem htj, List.foldl_append]
      rfl
    cases rx with
    | tup h1 gg rl =>
      cases rl with
      | cons ra tl =>
        cases tl with
        | cons rb tl =>
          cases tl
          cases ra
          cases rb
          refine ⟨_, _, rfl, .of h1, rfl, _, _, rfl, _, _, rfl, rfl, ?_⟩
          have hia' : ((σ'.set a (some (natV ts[j].1))).set b (some (natV ts[j].2)))[i]? = some (some (.ref p)) := by
            rw [List.getElem?_set_ne (Ne.symm hib), List.getElem?_set_ne (Ne.symm hia), hσ i hia hib, hi]
          have haa : ((σ'.set a (some (natV ts[j].1))).set b (some (natV ts[j].2)))[a]? = some (some (natV ts[j].1)) := by
            rw [List.getElem?_set_ne (Ne.symm hab), List.getElem?_set_self (by rw [hσl]; exact ha)]
          have hbb : ((σ'.set a (some (natV ts[j].1))).set b (some (natV ts[j].2)))[b]? = some (some (natV ts[j].2)) := List.getElem?_set_self (by rw [List.length_set, hσl]; exact hb)
          refine app2_in ri3 g3 (e'.trans e3) hia' haa hbb hx1 (by have : maxL = 1000000 := rfl; omega) fun H4 ri4 g4 e4 hu4 => ?_
          refine app2_in ri4 g4 e4 hia' hbb haa hx2 (by have : maxL = 1000000 := rfl; omega) fun H5 ri5 g5 e5 hu5 => ?_
          refine ⟨hlt, G', e5, g5, ?_, ?_, fun l n1 n2 => ?_, by rw [List.length_set, List.length_set, hσl]⟩
          · rw [fstep]
            exact ⟨ri5.lst, ri5.gp, ri5.hp, ri5.len, fun j q row a1 a2 => by
              obtain ⟨k1, k2, k3, k4, k5⟩ := ri5.at_ j q row a1 a2
              exact ⟨k1, k2, k3, k4, by omega⟩, ri5.inj⟩
          · obtain ⟨q4, m4, o4, rfl⟩ := hu4
            obtain ⟨q5, m5, o5, rfl⟩ := hu5
            exact ((ev'.trans e3.evo).trans (Evo.put' (.inr (.inr m4)))).trans (Evo.put' (.inr (.inr m5)))
          · rw [List.getElem?_set_ne (Ne.symm n2), List.getElem?_set_ne (Ne.symm n1)]
            exact hσ l n1 n2
  · have ej : j = sh.length := by omega
    subst ej
    refine .inl ⟨wk.stop H' hk _ (Nat.le_refl _), fin G' H' σ' e' g' ?_ hσ hσl⟩
    rw [List.take_of_length_le (by omega)] at ri'
    exact ⟨ri'.lst, ri'.gp, ri'.hp, ri'.len, fun j q row a1 a2 => by
      obtain ⟨k1, k2, k3, k4, k5⟩ := ri'.at_ j q row a1 a2
      exact ⟨k1, k2, k3, k4, by omega⟩, ri'.inj⟩
end
end Fm

/-! FmZa: what is kept in crowd.looked. -/
namespace Fm
open PySem PySem.Spec PyProof.Rows L2
section
variable {W : Wd} {F : Fns} {k : Kn} {sc : Scope} {X : Cx}
variable {Z Z' : Addr → Prop} {G G' : Gh} {H H' : Hp} {σ σ' : L2.St} {D1 : Ends}
theorem nd_len {α : Type} [DecidableEq α] : ∀ {l m : List α}, l.Nodup → (∀ x ∈ l, x ∈ m) → l.length ≤ m.length
  | [], _, _, _ => Nat.zero_le _
  | a :: l, m, hn, hs => by
    obtain ⟨h1, h2⟩ := List.nodup_cons.mp hn
    have ha := hs a List.mem_cons_self
    have z : l.length ≤ (m.erase a).length := nd_len h2 fun x hx => (List.mem_erase_of_ne (fun e => h1 (by rw [← e]; exact hx))).mpr (hs x (List.mem_cons_of_mem _ hx))
    rw [List.length_erase_of_mem ha] at z
    have : 0 < m.length := List.length_pos_of_mem ha
    rw [List.length_cons]
    omega
theorem putK_keys {kvs : List (Key × V)} {kk : Key} {v x : V} (h : valV kvs kk = some x) : (putK kvs kk v).map (·.1) = kvs.map (·.1) := by
  unfold putK
  rw [if_pos (by rw [valV_any, h]; rfl), List.map_map]
  apply List.map_congr_left
  intro kv _
  show (if kv.1 = kk then (kv.1, v) else kv).1 = kv.1
  split <;> rfl
theorem putK_mem {kvs : List (Key × V)} {kk : Key} {v : V} {kv : Key × V} (h : kv ∈ putK kvs kk v) : kv ∈ kvs ∨ kv = (kk, v) := by
  unfold putK at h
  split at h
  · obtain ⟨kv', h1, h2⟩ := List.mem_map.mp h
    split at h2
    · rename_i e
      right
      rw [← h2, e]
    · left
      rw [← h2]
      exact h1
  · rcases List.mem_append.mp h with h | h
    · exact .inl h
    · exact .inr (List.mem_singleton.mp h)
theorem valV_mem {kvs : List (Key × V)} {kk : Key} {v : V} (h : valV kvs kk = some v) : (kk, v) ∈ kvs := by
  unfold valV at h
  cases e : kvs.find? fun kv => decide (kv.1 = kk) with
  | none => rw [e] at h; cases h
  | some kv =>
    rw [e] at h
    have h1 := List.find?_some e
    have h2 := List.mem_of_find?_eq_some e
    have h3 : kv.1 = kk := of_decide_eq_true h1
    cases h
    rw [← h3]
    exact h2
/-- one more thing is kept -/
theorem look_put {n : Nat} {ts : List (Nat × Nat)} {ns : List Nat} {l : Addr} {key : Str} {d : D} {v : V} {kvs : List (Key × V)} (g : GInv W G H) (hl : G l = some (.looked n ts ns)) (hk : H l = some (.dK kvs)) (hkey : key ∈ lookS) (hc : W.cache n ts ns key = some d) (hf : d.flat = true) (r : Rel W Z G H v d) :
    kvs.length < sizeLine ∧ GInv W G (upd H l (.dK (putK kvs (.inr key) v))) ∧ (∀ {G0 H0}, Ext G0 H0 G H → G0 l ≠ none ∨ H0 l = none → Ext G0 H0 G (upd H l (.dK (putK kvs (.inr key) v)))) := by
  obtain ⟨kvs', hk', nd, all⟩ := g l _ hl
  rw [hk] at hk'
  cases hk'
  have go : Go G H G (upd H l (.dK (putK kvs (.inr key) v))) := ⟨fun q o e g1 kp => ⟨by
    have n1 : q ≠ l := fun z => by rw [z, hl] at g1; cases g1
    rw [upd_ne n1]
    exact e, g1⟩, fun _ _ _ _ e => e⟩
  refine ⟨?_, fun q kk e => ?_, fun {G0 H0} ex h0 => ⟨ex.gh, fun q o e g1 => ?_⟩⟩
  · have z : (kvs.map (·.1)).length ≤ (lookS.map (Sum.inr : Str → Key)).length := nd_len nd fun x hx => by
      obtain ⟨kv, h1, rfl⟩ := List.mem_map.mp hx
      obtain ⟨s, d', e1, e2, _⟩ := all kv h1
      rw [e1]
      exact List.mem_map.mpr ⟨s, e2.1, rfl⟩
    rw [List.length_map] at z
    exact Nat.lt_of_le_of_lt z (Nat.lt_of_lt_of_le (show 3 < maxL by decide) line_max)
  · by_cases n1 : q = l
    · subst n1
      rw [hl] at e
      cases e
      refine ⟨_, upd_same, ?_, fun kv hkv => ?_⟩
      · cases e : valV kvs (Sum.inr key) with
        | none => exact nd_putK v nd e
        | some x => rw [putK_keys e]; exact nd
      · rcases putK_mem hkv with h | h
        · obtain ⟨s, d', e1, e2, e3, e4⟩ := all kv h
          exact ⟨s, d', e1, e2, e3, e4.go go e3⟩
        · rw [h]
          exact ⟨key, d, rfl, ⟨hkey, hc⟩, hf, r.go go hf⟩
    · exact (g q kk e).go go (upd_ne n1) fun _ _ e => e
  · have n1 : q ≠ l := fun z => by
      rw [z] at g1 e
      rcases h0 with h0 | h0
      · exact h0 g1
      · rw [h0] at e; cases e
    rw [upd_ne n1]
    exact ex.ob q o e g1
def tLook (K : PySem.W.Frag) : TE := tFld K (tVar 0) "looked"
/-- a crowd at a -/
structure CrAt (W : Wd) (G : Gh) (H : Hp) (a l : Addr) (n : Nat) (ts : List (Nat × Nat)) (ns : List Nat) : Prop where
  h : ∃ dx t u, H a = some (.ins W.C dx (crowdF n t u l))
  g : G a = none
  l : G l = some (.looked n ts ns)
theorem CrAt.ext {a l : Addr} {n : Nat} {ts : List (Nat × Nat)} {ns : List Nat} (c : CrAt W G H a l n ts ns) (e : Ext G H G' H') : CrAt W G' H' a l n ts ns := by
  obtain ⟨⟨dx, t, u, h⟩, g, hl⟩ := c
  exact ⟨⟨dx, t, u, (e.ob _ _ h g).1⟩, (e.ob _ _ h g).2, e.gh _ _ hl⟩
theorem look_in {gi : List (String × Int)} {mg : Str → Option Value} {a l : Addr} {n : Nat} {ts : List (Nat × Nat)} {ns : List Nat} {Q : VK} (fa : Facts W mg gi) (c : CrAt W G H a l n ts ns) (hσ : σ[0]? = some (some (.ref a))) (h : Q (.ref l) H) : tLook W.K σ H Q := by
  obtain ⟨⟨dx, t, u, h1⟩, g, hl⟩ := c
  exact ⟨.ref a, hσ, a, W.C, dx, _, .ref l, rfl, h1, fa.cls, fa.noat _ (by simp), rfl, h⟩
/-- if key not in crowd.looked: inner; return crowd.looked[key] -/
theorem cached_in {gi : List (String × Int)} {mg : Str → Option Value} {a l : Addr} {n : Nat} {ts : List (Nat × Nat)} {ns : List Nat} {key : Str} {d : D} {inner : TS} {Q : VK} {nx : L2.St → Hp → Prop} (fa : Facts W mg gi) (g : GInv W G H) (c : CrAt W G H a l n ts ns) (hσ : σ[0]? = some (some (.ref a)))
    (hc : W.cache n ts ns key = some d)
    (hin : ∀ D2 : Ends, (∀ G' H' σ', Ext G H G' H' → GInv W G' H' → σ'[0]? = some (some (.ref a)) → (∃ kvs v, H' l = some (.dK kvs) ∧ valV kvs (.inr key) = some v) → D2.nx σ' H') → inner D2 σ H)
    (hQ : ∀ G' H' v, Ext G H G' H' → GInv W G' H' → Rel W Z G' H' v d → Q v H') :
    tSeq (tIfS (tB (tDNotIn (tC (.str key)) (tLook W.K))) inner tNext) (tRet (tDGet (tLook W.K) (tC (.str key)))) { nx := nx, rt := Q } σ H := by
  have ret : ∀ G' H' σ', Ext G H G' H' → GInv W G' H' → σ'[0]? = some (some (.ref a)) → (∃ kvs v, H' l = some (.dK kvs) ∧ valV kvs (.inr key) = some v) → tRet (tDGet (tLook W.K) (tC (.str key))) { nx := nx, rt := Q } σ' H' := fun G' H' σ' e g' hσ' hv => by
    obtain ⟨kvs, v, hk, hv⟩ := hv
    unfold tRet tDGet tC
    refine look_in fa (c.ext e) hσ' ?_
    refine ⟨l, v, rfl, ?_, ?_⟩
    · have z := DGet.k (k := (.inr key : Key)) hk
      rw [hv] at z
      exact z
    · obtain ⟨kvs', hk', nd, all⟩ := g' l _ (c.ext e).l
      rw [hk] at hk'
      cases hk'
      obtain ⟨s, d', e1, e2, e3, e4⟩ := all _ (valV_mem hv)
      cases e1
      rw [hc] at e2
      cases e2.2
      exact hQ G' H' v e g' (e4.flat e3)
  obtain ⟨kvs, hk, nd, all⟩ := g l _ c.l
  unfold tSeq tIfS tB tDNotIn tC
  refine look_in fa c hσ ?_
  refine ⟨l, valV kvs (.inr key), rfl, DGet.k (k := (.inr key : Key)) hk, !(valV kvs (.inr key)).isSome, rfl, ?_⟩
  cases hv : valV kvs (.inr key) with
  | some v =>
    rw [if_neg (show ¬ ((!(some v).isSome) = true) from by simp)]
    exact ret G H σ (Ext.refl G H) g hσ ⟨kvs, v, hk, hv⟩
  | none =>
    rw [if_pos (show (!(none : Option V).isSome) = true from rfl)]
    exact hin _ ret
end
end Fm

/-! FmZb: besides(crowd). -/
namespace Fm
open PySem PySem.Spec PyProof.Rows L2
section
variable {W : Wd} {F : Fns} {k : Kn} {sc : Scope} {X : Cx}
/-- a comprehension, by its own reading -/
theorem lc_parts {tg : Tg} {own : List Nat} {it test elt : E} {t : Option Expr} {e : Expr} (h : chkE k (.lc tg own it test elt) sc t e = true) : ∃ ee tt ie ifs scope pos, e = .ListComp ee [⟨tt, ie, ifs, 0⟩] scope pos ∧
    blkC k.N sc scope (ownOf k own) = true ∧ tgSub own tg = true ∧ chkTg k (relS scope sc) (fun x => scope.names.lookup x == some .cell) tg tt = true ∧ chkE k it sc (some tt) ie = true ∧ notSet ie = true ∧
    (∀ X', Cn W F k (relS scope sc) X' → PTs X' ifs (ttOf W F test)) ∧ chkE k elt (relS scope sc) none ee = true := by
  unfold chkE at h
  cases e <;> first | cases h | skip
  rename_i ee gens scope pos
  rcases gens with _ | ⟨⟨t, ie, ifs, as⟩, _ | ⟨g2, gs⟩⟩ <;> first | cases h | skip
  rw [Bool.and_eq_true, Bool.and_eq_true, Bool.and_eq_true, Bool.and_eq_true, Bool.and_eq_true, Bool.and_eq_true, Bool.and_eq_true, decide_eq_true_eq] at h
  obtain ⟨rfl, h1, h2, h3, h4, h5, h6, h7⟩ := h
  refine ⟨ee, t, ie, ifs, scope, pos, rfl, h1, h2, h3, h4, h5, fun X' c' => pts_of c' ?_, h7⟩
  rcases ifs with _ | ⟨e1, _ | ⟨e2, es⟩⟩
  · exact .inr ⟨rfl, h6⟩
  · simp only [Bool.and_eq_true, Bool.not_eq_true'] at h6
    exact .inl ⟨e1, rfl, h6.1, ((all_ok W F k test).1.sub c' h6.2).pt⟩
  · cases h6
theorem s_setLC (c : CnS W F k sc X) {i : Nat} {tg : Tg} {own : List Nat} {it test elt : E} {x : Str} {e : Expr} {p pos : Pos} (hn : nameOk k sc (fun _ => true) i x = true) (he : chkE k (.lc tg own it test elt) sc none e = true) :
    PS X (.Assign [.Name x p] e pos) (tAsg (tLc (rdI W F it) (gTg W.K tg) (ttOf W F test) (rdE W F elt) own) (gName i)) := by
  obtain ⟨ee, t, ie, ifs, scope, cpos, rfl, g1, g2, g3, g4, g5, htest, g7⟩ := lc_parts (W := W) (F := F) he
  unfold nameOk at hn
  simp only [Bool.and_eq_true, Bool.or_eq_true, decide_eq_true_eq] at hn
  obtain ⟨h1, h2⟩ := hn
  have c1 := c.c
  have hN : X.N.Nodup := by rw [c.c.N]; exact c.c.nd
  have hi : X.N[i]? = some x := by rw [c.c.N]; exact h1
  have hx : L2.Loc X.env.scope x := by
    unfold L2.Loc
    rw [c.c.sc]
    exact h2.imp id fun z => z.1
  have hf : X.fn x = true ∨ X.env.scope.names.lookup x = some .local := .inl (by rw [c.fn])
  have ok : BlkOk X.N X.env.scope scope (ownOf k own) := by
    rw [c.c.N, c.c.sc]
    exact blkOk_by g1
  have hk : X.env.scope.kind = .function := by rw [c.c.sc]; exact c.kind
  cases hb : (X.env.blockKind == .function && X.env.kindOf x == some .local && p.line == cpos.line && !(scope.names.any fun (n, k) => n == x && (k == .local || k == .cell))) with
  | false =>
    have q := pe_lc (pos := cpos) (elt := ee) (te := rdE W F elt) c1.calm hN ((all_ok W F k it).1.walk c1 g4) ok (fun s H C cl fp => g_tg (c1.blk s H scope C cl fp) (tg := tg) (e := t) g3) (fun s H C cl fp => htest _ (c1.blk s H scope C cl fp))
      (fun s H C cl fp => ((all_ok W F k elt).1.sub (c1.blk s H scope C cl fp) g7).pe) (set_ok g5)
    rw [ownOf_snd] at q
    exact ps_set hN hi hx q (sw_false hb) hf
  | true =>
    simp only [Bool.and_eq_true, Bool.not_eq_true'] at hb
    obtain ⟨⟨⟨b1, b2⟩, b3⟩, b4⟩ := hb
    have hyl : X.env.scope.names.lookup x = some .local := by
      have z : X.env.kindOf x = some .local := by
        cases hq : X.env.kindOf x with
        | none => rw [hq] at b2; cases b2
        | some kd => rw [hq] at b2; cases kd <;> first | rfl | cases b2
      exact z
    have q := ps_setLc (X := X) (spos := pos) (elt := ee) (te := rdE W F elt) c1.calm hN hi hyl (sw_true hk hyl b3 b4) ((all_ok W F k it).1.walk c1 g4) ok (fun s H C cl fp => g_tg (c1.blk s H scope C cl fp) (tg := tg) (e := t) g3) (fun s H C cl fp => htest _ (c1.blk s H scope C cl fp))
      (fun s H C cl fp => ((all_ok W F k elt).1.sub (c1.blk s H scope C cl fp) g7).pe) (set_ok g5)
    rw [ownOf_snd] at q
    exact q
/-! ### the two statements that fill rows -/
def sRows0 (i pp : Nat) (en : E) : S := .set (.one i) (.lc (.one pp) [pp] (.rng1 en) .nil (.lst .nil))
def chkFill (k : Kn) (sc : Scope) (i a b : Nat) (et : E) : Stmt → Bool
  | .For t ie [.Expr (.Call (.Attribute (.Subscript o1 a1 _) f1 ap1) [b1] [] cp1) _, .Expr (.Call (.Attribute (.Subscript o2 a2 _) f2 ap2) [b2] [] cp2) _] [] _ =>
    chkTg k sc (fun _ => true) (.many [a, b]) t && (chkE k et sc (some t) ie && (notSet ie && (decide (f1 = "append") && (decide (f2 = "append") && (chkE k (.var i) sc none o1 && (chkE k (.var i) sc none o2 &&
      (chkE k (.var a) sc none a1 && (chkE k (.var b) sc none b1 && (chkE k (.var b) sc none a2 && (chkE k (.var a) sc none b2 && (ap1.endLine == cp1.line && ap2.endLine == cp2.line)))))))))))
  | _ => false
def tFill (W : Wd) (F : Fns) (i a b : Nat) (et : E) : TS := tFor (rdI W F et) (gTg W.K (.many [a, b])) (tSeq (tApp2 W.K i a b) (tApp2 W.K i b a))
theorem s_fill (c : CnS W F k sc X) {i a b : Nat} {et : E} {st : Stmt} (h : chkFill k sc i a b et st = true) : PS X st (tFill W F i a b et) := by
  unfold chkFill at h
  split at h
  · rename_i t ie o1 a1 p1 f1 ap1 b1 cp1 p2 o2 a2 p3 f2 ap2 b2 cp2 p4 p5
    simp only [Bool.and_eq_true, decide_eq_true_eq] at h
    obtain ⟨h1, h2, h3, rfl, rfl, h4, h5, h6, h7, h8, h9, h10, h11⟩ := h
    exact ps_for (by rw [c.xe]; exact PassesOwn.never) c.c.calm ((all_ok W F k et).1.walk c.c h2) (g_tg c.c (by rw [c.fn]; exact h1)) (pss_cons (ps_app2 c.c h4 h6 h7 h10) (pss_one (ps_app2 c.c h5 h8 h9 h11))) (set_ok h3)
  · cases h
theorem SOk.know {Z : Addr → Prop} {G : Gh} {H : Hp} {env : Env} {σ : L2.St} {i : Nat} {v : V} {d : D} (s : SOk W Z G H env σ) (hσ : σ[i]? = some (some v)) (r : Rel W Z G H v d) : SOk W Z G H (env.set i (some d)) σ := by
  have z := s.put r i
  have e : σ.set i (some v) = σ := by
    apply List.ext_getElem?
    intro j
    by_cases hj : i = j
    · subst hj
      have hl : i < σ.length := by
        by_cases hl : i < σ.length
        · exact hl
        · rw [List.getElem?_eq_none (by omega)] at hσ; cases hσ
      rw [List.getElem?_set_self hl, hσ]
    · rw [List.getElem?_set_ne hj]
  rw [e] at z
  exact z
theorem rel_nats {Z : Addr → Prop} {G : Gh} {H : Hp} : ∀ row : List Nat, RelL W Z G H (row.map natV) (row.map natD)
  | [] => .nil
  | x :: r => .cons (.int _) (rel_nats r)
def rowsD (rows : List (List Nat)) : List D := rows.map fun r => .lst (r.map natD)
theorem RI.rel {Z : Addr → Prop} {G : Gh} {H Hs : Hp} {p : Addr} {refs : List Addr} {rows : List (List Nat)} {bnd : Nat} (r : RI Hs G H p refs rows bnd) (hz : ∀ q, Hs q = none → ¬ Z q) : Rel W Z G H (.ref p) (.lst (rowsD rows)) := by
  refine .lst r.lst r.gp (hz p r.hp) ?_
  have go : ∀ (refs : List Addr) (rows : List (List Nat)), refs.length = rows.length → (∀ (j : Nat) q row, refs[j]? = some q → rows[j]? = some row → H q = some (.lst (row.map natV)) ∧ G q = none ∧ Hs q = none) → RelL W Z G H (refs.map V.ref) (rowsD rows) := by
    intro refs
    induction refs with
    | nil =>
      intro rows hl _
      cases rows with
      | nil => exact .nil
      | cons _ _ => cases hl
    | cons q refs ih =>
      intro rows hl h
      cases rows with
      | nil => cases hl
      | cons row rows =>
        obtain ⟨h1, h2, h3⟩ := h 0 q row rfl rfl
        exact .cons (.lst h1 h2 (hz q h3) (rel_nats row)) (ih rows (Nat.succ.inj hl) fun j q' row' e1 e2 => h (j + 1) q' row' e1 e2)
  exact go refs rows r.len fun j q row e1 e2 => let ⟨a, b, c, _⟩ := r.at_ j q row e1 e2; ⟨a, b, c⟩
theorem tiesOf_map : ∀ ts : List (Nat × Nat), tiesOf (ts.map fun t => .tup [.int t.1, .int t.2]) = some ts
  | [] => rfl
  | t :: ts => by
    show (if 0 ≤ (t.1 : Int) ∧ 0 ≤ (t.2 : Int) then (tiesOf (ts.map fun t => .tup [.int t.1, .int t.2])).map (((t.1 : Int).toNat, (t.2 : Int).toNat) :: ·) else none) = _
    rw [if_pos ⟨by omega, by omega⟩, tiesOf_map ts]
    rfl
/-- both statements: the state behind them -/
theorem rows_both {Z : Addr → Prop} {G : Gh} {H : Hp} {env : Env} {σ : L2.St} {D1 : Ends} {u : TS} {i a b pp n : Nat} {en et : E} {ts : List (Nat × Nat)} (s : SOk W Z G H env σ) (hia : i ≠ a) (hib : i ≠ b) (hab : a ≠ b) (hi : i < σ.length) (ha : a < σ.length) (hb : b < σ.length)
    (ni : ∀ d, env[i]? ≠ some (some d)) (na : ∀ d, env[a]? ≠ some (some d)) (nb : ∀ d, env[b]? ≠ some (some d))
    (hn : (ev F (.rng1 en) env >>= itsT).wp fun xs => xs.length = n) (ht : (ev F et env >>= itsT).wp fun ys => tiesOf ys = some ts) (hl : ts.length ≤ 1000) (hts : ∀ t ∈ ts, t.1 < n ∧ t.2 < n)
    (fin : ∀ G' H' σ', Ext G H G' H' → GInv W G' H' → SOk W Z G' H' (env.set i (some (.lst (rowsD (fill (List.replicate n []) ts))))) σ' → (∀ j, j ≠ i → j ≠ a → j ≠ b → σ'[j]? = σ[j]?) → u D1 σ' H') :
    tSeq (tAsg (tLc (rdI W F (.rng1 en)) (gTg W.K (.one pp)) (ttOf W F .nil) (rdE W F (.lst .nil)) [pp]) (gName i)) (tSeq (tFill W F i a b et) u) D1 σ H := by
  show tLc (rdI W F (.rng1 en)) (gTg W.K (.one pp)) (ttOf W F .nil) (rdE W F (.lst .nil)) [pp] σ H (fun x H1 => tFill W F i a b et { D1 with nx := u D1 } (σ.set i (some x)) H1)
  refine rows0_in s (T.wp_imp hn fun xs hxs G1 H1 p refs e1 g1 ri => ?_)
  rw [hxs] at ri
  show tFill W F i a b et { D1 with nx := u D1 } (σ.set i (some (.ref p))) H1
  have hlen : (σ.set i (some (V.ref p))).length = σ.length := List.length_set ..
  have same : ∀ (j : Nat) d, env[j]? = some (some d) → env[j]? = some (some d) ∧ (σ.set i (some (V.ref p)))[j]? = σ[j]? := fun j d e => ⟨e, List.getElem?_set_ne fun z => ni d (by rw [z]; exact e)⟩
  refine rows_for hia hib hab (by rw [hlen]; exact ha) (by rw [hlen]; exact hb) s e1 g1 ri (by rw [hlen]; exact s.len) same (List.getElem?_set_self hi) (T.wp_imp ht fun ys hys => ⟨ts, hys, hl, hts, fun G' H' σ' e' g' ri' hσ hσl => ?_⟩)
  have hσj : ∀ j, j ≠ i → j ≠ a → j ≠ b → σ'[j]? = σ[j]? := fun j n1 n2 n3 => by rw [hσ j n2 n3, List.getElem?_set_ne (Ne.symm n1)]
  have s1 : SOk W Z G' H' env σ' := (s.ext e' g').less (by rw [hσl, hlen]; exact s.len) fun j d e => ⟨e, hσj j (fun z => ni d (by rw [← z]; exact e)) (fun z => na d (by rw [← z]; exact e)) (fun z => nb d (by rw [← z]; exact e))⟩
  refine fin G' H' σ' e' g' (s1.know (v := .ref p) (by rw [hσ i hia hib]; exact List.getElem?_set_self hi) (ri'.rel fun q hq z => ?_)) hσj
  obtain ⟨⟨xs, h⟩, _⟩ := s.zo q z
  rw [hq] at h
  cases h
end
end Fm

/-! FmZc: besides keeps its promise. -/
namespace Fm
open PySem PySem.Spec PyProof.Rows L2
theorem keyd_nat (x : Nat) : D.keyd 8 (natD x) = true := rfl
theorem canSort_nats (r : List Nat) : canSort (r.map natD) = true := by
  unfold canSort
  rw [Bool.and_eq_true, List.all_eq_true, List.all_eq_true]
  refine ⟨fun x hx => ?_, fun x hx => ?_⟩
  · obtain ⟨a, _, rfl⟩ := List.mem_map.mp hx
    rfl
  · obtain ⟨a, _, rfl⟩ := List.mem_map.mp hx
    rw [List.all_eq_true]
    intro y hy
    obtain ⟨b, _, rfl⟩ := List.mem_map.mp hy
    rfl
theorem insD_len (x : D) : ∀ l : List D, (insD x l).length = l.length + 1
  | [] => rfl
  | y :: r => by
    unfold insD
    split
    · rfl
    · rw [List.length_cons, insD_len x r, List.length_cons]
theorem addRow_row {rows : List (List Nat)} {a b m : Nat} (h : ∀ r ∈ rows, r.length ≤ m) : ∀ r ∈ addRow rows a b, r.length ≤ m + 1 := by
  intro r hr
  unfold addRow at hr
  rcases List.mem_or_eq_of_mem_set hr with h1 | h1
  · exact Nat.le_succ_of_le (h r h1)
  · rw [h1, List.length_append]
    have : (rows.getD a []).length ≤ m := by
      rw [List.getD_eq_getElem?_getD]
      cases e : rows[a]? with
      | none => exact Nat.zero_le _
      | some x => exact h x (List.mem_of_getElem? e)
    exact Nat.succ_le_succ this
theorem fill_row : ∀ (ts : List (Nat × Nat)) (rows : List (List Nat)) (m : Nat), (∀ r ∈ rows, r.length ≤ m) → ∀ r ∈ fill rows ts, r.length ≤ m + 2 * ts.length
  | [], rows, m, h => h
  | t :: ts, rows, m, h => fun r hr => by
    have z := fill_row ts (addRow (addRow rows t.1 t.2) t.2 t.1) (m + 2) (addRow_row (addRow_row h)) r hr
    rw [List.length_cons]
    omega
def besD (n : Nat) (ts : List (Nat × Nat)) : D := .tup ((fill (List.replicate n []) ts).map fun r => .tup (sortD (r.map natD)))
def besOk (n : Nat) (ts : List (Nat × Nat)) : Bool := decide (n ≤ 1000) && (decide (ts.length ≤ 1000) && ts.all fun t => decide (t.1 < n) && decide (t.2 < n))
def besT : List D → T D
  | [.crowd n ts _] => if besOk n ts = true then .ret (besD n ts) else .bad
  | _ => .bad
def mBes (i row : Nat) : E := .blt .tuple (.cons (.lc (.one row) [row] (.var i) .nil (.blt .tuple (.cons (.blt .sorted (.cons (.var row) .nil)) .nil))) .nil)
theorem sorted_nats (F : Fns) (env : Env) (row : Nat) (r : List Nat) (he : env[row]? = some (some (.lst (r.map natD)))) (hr : r.length ≤ 2000) : ev F (.blt .sorted (.cons (.var row) .nil)) env = .ret (.lst (sortD (r.map natD))) := by
  have e1 : evs F (.cons (.var row) .nil) env = .ret [.lst (r.map natD)] := evs_cons (getv_some he) rfl
  show (evs F (.cons (.var row) .nil) env >>= fun ds => bltin .sorted ds) = _
  rw [e1]
  show (if (canSort (r.map natD) && decide ((r.map natD).length ≤ maxL)) = true then T.ret (D.lst (sortD (r.map natD))) else T.bad) = _
  rw [canSort_nats, List.length_map, if_pos (by rw [Bool.true_and]; exact decide_eq_true (by have : maxL = 1000000 := rfl; omega))]
theorem bes_val (F : Fns) (env : Env) {i row : Nat} (rows : List (List Nat)) (hi : env[i]? = some (some (.lst (rowsD rows)))) (hrow : row < env.length) (hb : ∀ r ∈ rows, r.length ≤ 2000) : ev F (mBes i row) env = .ret (.tup (rows.map fun r => .tup (sortD (r.map natD)))) := by
  have e1 : ev F (.lc (.one row) [row] (.var i) .nil (.blt .tuple (.cons (.blt .sorted (.cons (.var row) .nil)) .nil))) env = .ret (.lst (rows.map fun r => .tup (sortD (r.map natD)))) := by
    have e0 : ev F (.var i) env = .ret (.lst (rowsD rows)) := getv_some hi
    rw [ev_lc, e0, bind_ret']
    show (lcT (lcStep F (.one row) [row] .nil (.blt .tuple (.cons (.blt .sorted (.cons (.var row) .nil)) .nil)) env) (rows.map fun r => .lst (r.map natD)) >>= fun ys => T.ret (D.lst ys)) = _
    rw [lcT_map (g := fun r => .tup (sortD (r.map natD))) (fun r hr => ?_)]
    · rfl
    · unfold lcStep lcRest
      show ((T.ret ((wipeE env [row]).set row (some (.lst (r.map natD)))) : T Env) >>= _) = _
      rw [bind_ret', if_pos (show isNil E.nil = true from rfl), bind_ret', if_pos rfl]
      have h1 : ((wipeE env [row]).set row (some (D.lst (r.map natD))))[row]? = some (some (.lst (r.map natD))) := List.getElem?_set_self (by rw [wipeE_length]; exact hrow)
      have e2 : evs F (.cons (.blt .sorted (.cons (.var row) .nil)) .nil) ((wipeE env [row]).set row (some (D.lst (r.map natD)))) = .ret [.lst (sortD (r.map natD))] := evs_cons (sorted_nats F _ row r h1 (hb r hr)) rfl
      have e3 : ev F (.blt .tuple (.cons (.blt .sorted (.cons (.var row) .nil)) .nil)) ((wipeE env [row]).set row (some (D.lst (r.map natD)))) = .ret (.tup (sortD (r.map natD))) := by
        show (evs F _ _ >>= fun ds => bltin .tuple ds) = _
        rw [e2]
        rfl
      rw [e3]
      rfl
  have e4 : evs F (.cons (.lc (.one row) [row] (.var i) .nil (.blt .tuple (.cons (.blt .sorted (.cons (.var row) .nil)) .nil))) .nil) env = .ret [.lst (rows.map fun r => .tup (sortD (r.map natD)))] := evs_cons e1 rfl
  show (evs F _ env >>= fun ds => bltin .tuple ds) = _
  rw [e4]
  rfl
theorem insD_all (p : D → Bool) (x : D) : ∀ l : List D, p x = true → l.all p = true → (insD x l).all p = true
  | [], h, _ => by show (p x && true) = true; rw [h]; rfl
  | y :: r, h, h2 => by
    have h3 := Bool.and_eq_true_iff.mp (show (p y && r.all p) = true from h2)
    unfold insD
    split
    · show (p x && (p y && r.all p)) = true
      rw [h, h3.1, h3.2]
      rfl
    · show (p y && (insD x r).all p) = true
      rw [h3.1, insD_all p x r h h3.2]
      rfl
theorem sortD_all (p : D → Bool) : ∀ l : List D, l.all p = true → (sortD l).all p = true
  | [], _ => rfl
  | x :: r, h => by
    have h3 := Bool.and_eq_true_iff.mp (show (p x && r.all p) = true from h)
    exact insD_all p x _ h3.1 (sortD_all p r h3.2)
theorem besD_flat (n : Nat) (ts : List (Nat × Nat)) : (besD n ts).flat = true := by
  unfold besD
  rw [flat_tup, List.all_eq_true]
  intro x hx
  obtain ⟨r, _, rfl⟩ := List.mem_map.mp hx
  rw [flat_tup]
  refine sortD_all _ _ ?_
  rw [List.all_eq_true]
  intro y hy
  obtain ⟨z, _, rfl⟩ := List.mem_map.mp hy
  rfl
end Fm

/-! FmZd: besides as a primitive. -/
namespace Fm
open PySem PySem.Spec PyProof.Rows L2
def chkBes (k : Kn) (sc : Scope) (i a b pp row : Nat) : List Stmt → Bool
  | [.If (.Compare (.Constant (.str s1) _ _) [.NotIn] [.Attribute o1 f1 _] _) [.Assign [.Name x _] e1 _, st2, .Assign [.Subscript (.Attribute o2 f2 _) (.Constant (.str s2) _ _) _] v _] [] _, .Return (some (.Subscript (.Attribute o3 f3 _) (.Constant (.str s3) _ _) _)) _] =>
    decide (s1 = "beside") && (decide (s2 = "beside") && (decide (s3 = "beside") && (decide (f1 = "looked") && (decide (f2 = "looked") && (decide (f3 = "looked") &&
      (chkE k (.var 0) sc none o1 && (chkE k (.var 0) sc none o2 && (chkE k (.var 0) sc none o3 && (nameOk k sc (fun _ => true) i x && (chkE k (.lc (.one pp) [pp] (.rng1 (.attr (.var 0) "persons")) .nil (.lst .nil)) sc none e1 &&
        (chkFill k sc i a b (.attr (.var 0) "ties") st2 && chkE k (mBes i row) sc none v)))))))))))
  | _ => false
theorem self_base {k : Kn} {sc : Scope} {o : Expr} {f : Str} {env : PySem.Env} {i : Nat} (h : chkE k (.var i) sc none o = true) : attributeBase o f env (eval o env) = eval o env := by
  unfold chkE at h
  cases o <;> first | cases h | rfl
theorem start_len {N : List Str} {vs : List V} (h : vs.length ≤ N.length) : (L2.start N vs).length = N.length := by
  unfold L2.start
  rw [List.length_append, List.length_map, List.length_replicate]
  omega
theorem envOf_len {N : List Str} {ds : List D} (h : ds.length ≤ N.length) : (envOf N ds).length = N.length := by
  unfold envOf
  rw [List.length_append, List.length_map, List.length_replicate]
  omega
theorem rng_val {F : Fns} {en : E} {env : Env} {n : Nat} (h : ev F en env = .ret (.int (n : Nat))) (hn : n ≤ 1000) : (ev F (.rng1 en) env >>= itsT) = .ret ((List.range n).map fun k => .int (0 + (k : Nat))) := by
  show ((ev F en env >>= fun x => rng1D x) >>= itsT) = _
  rw [h, bind_ret']
  show ((rngD 0 n >>= fun r => T.ret (D.lst r)) >>= itsT) = _
  have e : rngD 0 (n : Nat) = .ret ((List.range n).map fun k => .int (0 + (k : Nat))) := by
    unfold rngD
    have z : ((n : Nat) - (0 : Int)).toNat = n := by omega
    rw [z]
    have s0 : small 0 = true := by decide
    have s1 : small (n : Nat) = true := by
      unfold small
      rw [Bool.and_eq_true, decide_eq_true_eq, decide_eq_true_eq]
      omega
    rw [s0, s1, if_pos]
    rw [Bool.and_true, Bool.true_and]
    exact decide_eq_true (by have : maxL = 1000000 := rfl; omega)
  rw [e]
  rfl
theorem besides_prim {W : Wd} {P : Program} {w : World} {mg : Str → Option Value} {base : Heap} {gi : List (String × Int)} {prim : Fns} {c : Nat} {ad0 : Addr} {fd : FuncData} {x q : Str} {params : Arguments} {body : List Stmt} {scope : Scope} {N ps : List Str} {i a b pp row : Nat}
    (fa : Facts W mg gi) (hm : mg (Str.ofString "besides") = some (.ref ad0)) (h2 : FunD W.K x q params body scope [] [] ad0 fd) (h3 : Binds W.K fd ps []) (h4 : FnScope N ps scope) (hps : ps.length = 1)
    (hidx : (decide (0 < i ∧ 0 < a ∧ 0 < b ∧ i ≠ a ∧ i ≠ b ∧ a ≠ b ∧ i < N.length ∧ a < N.length ∧ b < N.length ∧ row < N.length ∧ 1 ≤ N.length)) = true)
    (h5 : chkBes ⟨N, [], gi⟩ scope i a b pp row body = true) (hcache : ∀ n ts ns, besOk n ts = true → W.cache n ts ns "beside" = some (besD n ts)) (hprim : prim "besides" = besT) (hc : 1 ≤ c) : PrimOk W P w mg base prim c "besides" := by
  refine .of (by decide) ⟨ad0, hm, .inl ⟨fd, ps, h2.kp, h3, FnOk.mono (j := 1) ?_ hc⟩⟩
  obtain ⟨i0, a0, b0, hia, hib, hab, hiN, haN, hbN, hrN, hN1⟩ := of_decide_eq_true hidx
  have un : ∀ {vs H Q E}, spF W prim "besides" vs H Q E → ∃ Z G n ts ns, GInv W G H ∧ ZOk Z G H ∧ RelL W Z G H vs [.crowd n ts ns] ∧ besOk n ts = true ∧ ∀ G' H' v, Ext G H G' H' → GInv W G' H' → Rel W Z G' H' v (besD n ts) → Q v H' := fun {vs H Q E} h => by
    obtain ⟨Z, G, ds, g, zo, r, h⟩ := h
    replace h := T.wp_imp h fun d hd G' H' v e g (r : Rel W Z G' H' v d) => hd G' H' v e g r.rr
    rw [hprim] at h
    unfold besT at h
    split at h
    · rename_i n ts ns
      obtain ⟨hb, h⟩ := wp_if h
      exact ⟨Z, G, n, ts, ns, g, zo, r, hb, h⟩
    · exact h.elim
  unfold chkBes at h5
  split at h5
  rotate_left 1
  · cases h5
  rename_i s1 j1 q1 o1 f1 q2 q3 x1 q4 e1 q5 st2 o2 f2 q6 s2 j2 q7 q8 v q9 q10 o3 f3 q11 s3 j3 q12 q13 q14
  simp only [Bool.and_eq_true, decide_eq_true_eq] at h5
  obtain ⟨rfl, rfl, rfl, rfl, rfl, rfl, c1, c2, c3, c4, c5, c6, c7⟩ := h5
  refine h2.ok (k := 0) h4 (fun vs H Q E h => ?_) fun cdv A outer s H vs Q E hr h =>
    ⟨tSeq (tIfS (tB (tDNotIn (tC (.str "beside")) (tLook W.K))) (tSeq (tAsg (tLc (rdI W noF (.rng1 (.attr (.var 0) "persons"))) (gTg W.K (.one pp)) (ttOf W noF .nil) (rdE W noF (.lst .nil)) [pp]) (gName i)) (tSeq (tFill W noF i a b (.attr (.var 0) "ties")) (sDPut (tLook W.K) (tC (.str "beside")) (rdE W noF (mBes i row))))) tNext)
      (tRet (tDGet (tLook W.K) (tC (.str "beside")))), PSs.nox ?_, ?_⟩
  · obtain ⟨Z, G, n, ts, ns, _, _, r, _⟩ := un h
    rw [r.length, hps]
    rfl
  · have cn := cn_of (P := P) (w := w) (base := base) (H := H) (E := E) (outer := []) (outer' := outer) fa h4 hr
    have hu : (cxOf CX0 P w W.K mg base N q scope ad0 cdv A outer s H E).nox.A.units + 1 < cLine := by
      have := hr.un
      show (A.deeper _).units + 1 < cLine
      omega
    have look := fun {o : Expr} {p : Pos} (h : chkE ⟨N, [], gi⟩ (.var 0) scope none o = true) => pe_fld (X := (cxOf CX0 P w W.K mg base N q scope ad0 cdv A outer s H E).nox) (f := "looked") (pos := p) (pe_self cn.c h) (self_base h)
    refine pss_cons (ps_if (pt_cmp (pc_dnotin hu pe_str (look c1)) rfl) (pss_cons (s_setLC cn c4 c5) (pss_cons (s_fill cn c6) (pss_one (ps_dput hu (look c2) pe_str ((all_ok W noF ⟨N, [], gi⟩ (mBes i row)).1.sub cn.c c7).pe ?_)))) pss_nil) (pss_one (ps_ret (pe_dget hu (look c3) pe_str ?_)))
    · exact swaps_sub
    · intro ov iv
      rfl
  · obtain ⟨Z, G, n, ts, ns, g, zo, r, hb, hQ⟩ := un h
    have r0 := r
    have hvs : ∃ ad, vs = [.ref ad] ∧ Rel W Z G H (.ref ad) (.crowd n ts ns) := by
      cases r with
      | cons r t =>
        cases t
        cases r with
        | crowd h g l r1 r2 => exact ⟨_, rfl, .crowd h g l r1 r2⟩
    obtain ⟨ad, rfl, rc⟩ := hvs
    have hcr : ∃ l, CrAt W G H ad l n ts ns := by
      cases rc with
      | crowd h g l r1 r2 => exact ⟨_, ⟨⟨_, _, _, h⟩, g, l⟩⟩
    obtain ⟨l, cr⟩ := hcr
    have f0 := fs_start (N := N) g zo r0
    have hσ : (L2.start N [.ref ad])[0]? = some (some (.ref ad)) := start_get rfl
    have sl : (L2.start N [V.ref ad]).length = N.length := start_len hN1
    have none_ : ∀ {j : Nat}, 0 < j → ∀ d, (envOf N [.crowd n ts ns])[j]? ≠ some (some d) := fun {j} hj d e => by
      have z := env_get e
      cases j with
      | zero => omega
      | succ j => cases z
    have henv0 : (envOf N [.crowd n ts ns])[0]? = some (some (.crowd n ts ns)) := by
      unfold envOf
      rfl
    have hb' := hb
    unfold besOk at hb'
    rw [Bool.and_eq_true, Bool.and_eq_true, decide_eq_true_eq, decide_eq_true_eq, List.all_eq_true] at hb'
    obtain ⟨hn, htl, hts⟩ := hb'
    refine cached_in fa g cr hσ (hcache n ts ns hb) (fun D2 n2 => ?_) hQ
    refine rows_both (n := n) (ts := ts) f0.s hia hib hab (by rw [sl]; exact hiN) (by rw [sl]; exact haN) (by rw [sl]; exact hbN) (none_ i0) (none_ a0) (none_ b0) ?_ ?_ htl (fun t ht => ?_) fun G' H' σ' e' g' s' hσ' => ?_
    · have e : ev noF (.attr (.var 0) "persons") (envOf N [.crowd n ts ns]) = .ret (.int (n : Nat)) := by
        show (getv _ 0 >>= fun x => attrD x "persons") = _
        rw [getv_some henv0]
        rfl
      rw [rng_val e hn]
      show ((List.range n).map _).length = n
      rw [List.length_map, List.length_range]
    · have e : ev noF (.attr (.var 0) "ties") (envOf N [.crowd n ts ns]) = .ret (tiesD ts) := by
        show (getv _ 0 >>= fun x => attrD x "ties") = _
        rw [getv_some henv0]
        rfl
      rw [e]
      exact tiesOf_map ts
    · have z := hts t ht
      rw [Bool.and_eq_true, decide_eq_true_eq, decide_eq_true_eq] at z
      exact z
    · show rdE W noF (mBes i row) σ' H' (fun v H1 => tLook W.K σ' H1 (fun x H2 => ∃ a H4, x = .ref a ∧ DPut H2 a (.str "beside") v H4 ∧ D2.nx σ' H4))
      have el : (envOf N [D.crowd n ts ns]).length = N.length := envOf_len hN1
      have hv := bes_val noF ((envOf N [.crowd n ts ns]).set i (some (.lst (rowsD (fill (List.replicate n []) ts))))) (i := i) (row := row) (fill (List.replicate n []) ts) (List.getElem?_set_self (by rw [el]; exact hiN)) (by rw [List.length_set, el]; exact hrN) (fun r hr => by
        have z := fill_row ts (List.replicate n []) 0 (fun r hr => by rw [(List.mem_replicate.mp hr).2]; exact Nat.le_refl 0) r hr
        omega)
      refine s'.toE ?_
      rw [hv]
      intro G2 H2 v e2 g2 r2
      have hσ0 : σ'[0]? = some (some (.ref ad)) := by rw [hσ' 0 (by omega) (by omega) (by omega)]; exact hσ
      have cr2 := cr.ext (e'.trans e2)
      obtain ⟨kvs, hk, nd, all⟩ := g2 l _ cr2.l
      obtain ⟨p1, p2, p3⟩ := look_put g2 cr2.l hk (show ("beside" : Str) ∈ lookS from List.mem_cons_self) (hcache n ts ns hb) (besD_flat n ts) (Z := Z) r2
      refine look_in fa cr2 hσ0 ?_
      refine ⟨l, _, rfl, DPut.k (k := (.inr "beside" : Key)) hk p1, n2 G2 _ σ' (p3 (e'.trans e2) (.inl (by rw [cr.l]; exact fun z => by cases z))) p2 hσ0 ⟨_, v, upd_same, ?_⟩⟩
      rw [valV_put, if_pos rfl]
end Fm

/-! FmZe: what a crowd keeps of one expression: if key not in crowd.looked: crowd.looked[key] = e; return crowd.looked[key]. -/
namespace Fm
open PySem PySem.Spec PyProof.Rows L2
def chkPut (k : Kn) (sc : Scope) (key : Str) (m : E) : Stmt → Bool
  | .Assign [.Subscript (.Attribute o2 f2 _) (.Constant (.str s2) _ _) _] v _ =>
    decide (s2 = key) && (decide (f2 = "looked") && (chkE k (.var 0) sc none o2 && chkE k m sc none v))
  | _ => false
def chkMid (k : Kn) (sc : Scope) (key : Str) (pre : Option S) (m : E) : List Stmt → Bool
  | [st] => pre.isNone && chkPut k sc key m st
  | [st1, st2] => (match pre with | some s => chkS k sc s st1 | none => false) && chkPut k sc key m st2
  | _ => false
def chkKept (k : Kn) (sc : Scope) (key : Str) (pre : Option S) (m : E) : List Stmt → Bool
  | [.If (.Compare (.Constant (.str s1) _ _) [.NotIn] [.Attribute o1 f1 _] _) sts [] _, .Return (some (.Subscript (.Attribute o3 f3 _) (.Constant (.str s3) _ _) _)) _] =>
    decide (s1 = key) && (decide (s3 = key) && (decide (f1 = "looked") && (decide (f3 = "looked") &&
      (chkE k (.var 0) sc none o1 && (chkE k (.var 0) sc none o3 && chkMid k sc key pre m sts)))))
  | _ => false
def pre1 (F : Fns) : Option S → Env → T Env
  | none, env => .ret env
  | some s, env => exec F s env >>= nxT
structure Kept (W : Wd) (prim : Fns) (name : String) (key : Str) (F : Fns) (N : List Str) (pre : Option S) (m : E) : Prop where
  hkey : key ∈ lookS
  val : ∀ ds d0, prim name ds = .ret d0 → ∃ n ts ns env1, ds = [.crowd n ts ns] ∧ W.cache n ts ns key = some d0 ∧ d0.flat = true ∧ pre1 F pre (envOf N ds) = .ret env1 ∧ ev F m env1 = .ret d0
  bad : ∀ ds, (∃ d0, prim name ds = .ret d0) ∨ prim name ds = .bad
  plc : ∀ s, pre = some s → 1 ∉ s.touch
def tPut (W : Wd) (F : Fns) (key : Str) (m : E) : TS := sDPut (tLook W.K) (tC (.str key)) (rdE W F m)
def tMid (W : Wd) (F : Fns) (key : Str) (pre : Option S) (m : E) : TS := match pre with
  | none => tPut W F key m
  | some s => tSeq (rdS W F s) (tPut W F key m)
theorem kept_prim {W : Wd} {P : Program} {w : World} {mg : Str → Option Value} {base : Heap} {gi : List (String × Int)} {cs : List (String × Nat)} {fs : List DefS} {prim : Fns} {c lv : Nat} {ad0 : Addr} {fd : FuncData} {x q : Str} {params : Arguments} {body : List Stmt} {scope : Scope} {N ps : List Str} {name : String} {key : Str} {pre : Option S} {m : E}
    (fa : Facts W mg gi) (hd : ∀ d ∈ fs, DefOk W mg cs gi d) (hfind : ∀ d ∈ fs, findD fs d.name = some d) (hcs : ∀ p ∈ cs, (∃ d ∈ fs, d.name = p.1) ∨ (findD fs p.1 = none ∧ PrimOk W P w mg base prim c p.1))
    (hm : mg (Str.ofString name) = some (.ref ad0)) (h2 : FunD W.K x q params body scope [] [] ad0 fd) (h3 : Binds W.K fd ps []) (h4 : FnScope N ps scope) (hps : ps.length = 1) (hN : 1 ≤ N.length) (hne : name ≠ "==")
    (h5 : chkKept ⟨N, cs, gi⟩ scope key pre m body = true) (hk : Kept W prim name key (callF prim fs lv) N pre m) : PrimOk W P w mg base prim (lv + c + 2) name := by
  refine .of hne ⟨ad0, hm, .inl ⟨fd, ps, h2.kp, h3, ?_⟩⟩
  have un : ∀ {vs H Q E}, spF W prim name vs H Q E → ∃ Z G n ts ns d0 env1, GInv W G H ∧ ZOk Z G H ∧ RelL W Z G H vs [.crowd n ts ns] ∧ W.cache n ts ns key = some d0 ∧ d0.flat = true ∧ pre1 (callF prim fs lv) pre (envOf N [.crowd n ts ns]) = .ret env1 ∧ ev (callF prim fs lv) m env1 = .ret d0 ∧ ∀ G' H' v, Ext G H G' H' → GInv W G' H' → Rel W Z G' H' v d0 → Q v H' := fun {vs H Q E} h => by
    obtain ⟨Z, G, ds, g, zo, r, h⟩ := h
    replace h := T.wp_imp h fun d hd G' H' v e g (r : Rel W Z G' H' v d) => hd G' H' v e g r.rr
    rcases hk.bad ds with ⟨d0, e0⟩ | e0
    · obtain ⟨n, ts, ns, env1, rfl, e1, e2, e3, e4⟩ := hk.val ds d0 e0
      rw [e0] at h
      exact ⟨Z, G, n, ts, ns, d0, env1, g, zo, r, e1, e2, e3, e4, h⟩
    · rw [e0] at h
      exact h.elim
  unfold chkKept at h5
  split at h5
  rotate_left 1
  · cases h5
  rename_i s1 j1 q1 o1 f1 q2 q3 sts q9 o3 f3 q11 s3 j3 q12 q13 q14
  simp only [Bool.and_eq_true, decide_eq_true_eq] at h5
  obtain ⟨rfl, rfl, rfl, rfl, c1, c3, c7⟩ := h5
  refine h2.ok (k := lv + c + 1) h4 (fun vs H Q E h => ?_) fun cdv A outer s H vs Q E hr h =>
    ⟨tSeq (tIfS (tB (tDNotIn (tC (.str s3)) (tLook W.K))) (tMid W (callF prim fs lv) s3 pre m) tNext)
      (tRet (tDGet (tLook W.K) (tC (.str s3)))), PSs.nox ?_, ?_⟩
  · obtain ⟨Z, G, n, ts, ns, d0, _, _, _, r, _⟩ := un h
    rw [r.length, hps]
    rfl
  · have cn : CnS W (callF prim fs lv) ⟨N, cs, gi⟩ scope (cxOf CX0 P w W.K mg base N q scope ad0 cdv A outer s H E).nox := by
      refine ⟨⟨rfl, rfl, h4.nd, rfl, rfl, ?_, fun p hp => ?_, fa.gi, fa.bl, fa.cls, fa.noat⟩, rfl, rfl, h4.kind⟩
      · have := hr.un
        show (A.deeper _).units + 100 < cLine
        omega
      · rcases hcs p hp with ⟨g, hg, e⟩ | ⟨hno, hp'⟩
        · obtain ⟨a2, fd2, m1, m2, m3, m4⟩ := fn_lvl (P := P) (w := w) (base := base) (prim := prim) (c := c) fa hd hfind hcs lv g hg
          rw [← e]
          exact ⟨fun _ => ⟨a2, m1, .inl ⟨lv + c + 1, fd2, g.ps, hr, m2.1, m3, m4⟩⟩, fun z => absurd z (hd g hg).ne⟩
        · refine ⟨fun hne => ?_, fun he => ?_⟩
          rotate_left 1
          · obtain ⟨c2, hc2, e⟩ := hp'.eq he
            exact ⟨c2, hr.mono (by omega), e⟩
          obtain ⟨a2, m1, hh⟩ := (hp'.a hne).ex
          refine ⟨a2, m1, ?_⟩
          rcases hh with ⟨fd2, ps2, m2, m3, m4⟩ | ⟨ini, fd2, ps2, sp2, m2, m3, m4, m5⟩
          · refine .inl ⟨c, fd2, ps2, hr.mono (by omega), m2, m3, m4.imp fun vs H Q E h => ?_⟩
            obtain ⟨Z, G, ds, g, zo, r, h⟩ := h
            rw [callF_prim hno] at h
            exact ⟨Z, G, ds, g, zo, r, h⟩
          · refine .inr ⟨c, ini, fd2, ps2, sp2, m2, hr.mono (by omega), m3, m4, fun vs H Q h => m5 vs H Q ?_⟩
            obtain ⟨Z, G, ds, g, zo, r, h⟩ := h
            rw [callF_prim hno] at h
            exact ⟨Z, G, ds, g, zo, r, h⟩
    have hu : (cxOf CX0 P w W.K mg base N q scope ad0 cdv A outer s H E).nox.A.units + 1 < cLine := by
      have := hr.un
      show (A.deeper _).units + 1 < cLine
      omega
    have look := fun {o : Expr} {p : Pos} (h : chkE ⟨N, cs, gi⟩ (.var 0) scope none o = true) => pe_fld (X := (cxOf CX0 P w W.K mg base N q scope ad0 cdv A outer s H E).nox) (f := "looked") (pos := p) (pe_self cn.c h) (self_base h)
    have put : ∀ {st : Stmt}, chkPut ⟨N, cs, gi⟩ scope s3 m st = true → PS (cxOf CX0 P w W.K mg base N q scope ad0 cdv A outer s H E).nox st (tPut W (callF prim fs lv) s3 m) := fun {st} h => by
      unfold chkPut at h
      split at h
      rotate_left 1
      · cases h
      simp only [Bool.and_eq_true, decide_eq_true_eq] at h
      obtain ⟨rfl, rfl, c2, c8⟩ := h
      refine ps_dput hu (look c2) pe_str ((all_ok W (callF prim fs lv) ⟨N, cs, gi⟩ m).1.sub cn.c c8).pe ?_
      exact swaps_sub
    have mid : PSs (cxOf CX0 P w W.K mg base N q scope ad0 cdv A outer s H E).nox sts (tMid W (callF prim fs lv) s3 pre m) := by
      unfold chkMid at c7
      split at c7
      · rw [Bool.and_eq_true] at c7
        cases pre with
        | none => exact pss_one (put c7.2)
        | some s => cases c7.1
      · rw [Bool.and_eq_true] at c7
        cases pre with
        | none => cases c7.1
        | some s0 =>
          have h1 := (stmts_ok W (callF prim fs lv) ⟨N, cs, gi⟩ s0).1 scope _ _ cn c7.1
          have h2 := pss_one (put c7.2)
          have h3 := pss_cons h1 h2
          exact h3
      · cases c7
    exact pss_cons (ps_if (pt_cmp (pc_dnotin hu pe_str (look c1)) rfl) mid pss_nil) (pss_one (ps_ret (pe_dget hu (look c3) pe_str (fun ov iv => rfl))))
  · obtain ⟨Z, G, n, ts, ns, d0, env1, g, zo, r, hca, hfl, hpre, hev, hQ⟩ := un h
    have r0 := r
    have hvs : ∃ ad, vs = [.ref ad] ∧ Rel W Z G H (.ref ad) (.crowd n ts ns) := by
      cases r with
      | cons r t =>
        cases t
        cases r with
        | crowd h g l r1 r2 => exact ⟨_, rfl, .crowd h g l r1 r2⟩
    obtain ⟨ad, rfl, rc⟩ := hvs
    have hcr : ∃ l, CrAt W G H ad l n ts ns := by
      cases rc with
      | crowd h g l r1 r2 => exact ⟨_, ⟨⟨_, _, _, h⟩, g, l⟩⟩
    obtain ⟨l, cr⟩ := hcr
    have f0 := fs_start (N := N) g zo r0
    have hσ : (L2.start N [.ref ad])[0]? = some (some (.ref ad)) := start_get rfl
    refine cached_in fa g cr hσ hca (fun D2 n2 => ?_) hQ
    -- the value is stored
    have fin : ∀ {Z1 G1 H1 env σ}, FS W Z G H Z1 G1 H1 env σ → σ[0]? = some (some (.ref ad)) → ev (callF prim fs lv) m env = .ret d0 → tPut W (callF prim fs lv) s3 m D2 σ H1 := fun {Z1 G1 H1 env σ} f hσ hev => by
      show rdE W (callF prim fs lv) m σ H1 (fun v H1 => tLook W.K σ H1 (fun x H2 => ∃ a H4, x = .ref a ∧ DPut H2 a (.str s3) v H4 ∧ D2.nx σ H4))
      refine f.s.toE ?_
      rw [hev]
      intro G2 H2 v e2 g2 r2
      have cr2 := cr.ext (f.e.trans e2)
      obtain ⟨kvs, hk2, nd, all⟩ := g2 l _ cr2.l
      have r2' : Rel W Z1 G2 H2 v d0 := r2.r (by cases d0 <;> first | rfl | cases hfl)
      obtain ⟨p1, p2, p3⟩ := look_put g2 cr2.l hk2 hk.hkey hca hfl (Z := Z1) r2'
      refine look_in fa cr2 hσ ?_
      refine ⟨l, _, rfl, DPut.k (k := (.inr s3 : Key)) hk2 p1, n2 G2 _ σ (p3 (f.e.trans e2) (.inl (by rw [cr.l]; exact fun z => by cases z))) p2 hσ ⟨_, v, upd_same, ?_⟩⟩
      rw [valV_put, if_pos rfl]
    cases pre with
    | none =>
      cases hpre
      exact fin f0 hσ hev
    | some s =>
      refine ⟨Z, G, H, Z, G, envOf N [.crowd n ts ns], f0, ?_⟩
      have hs : exec (callF prim fs lv) s (envOf N [.crowd n ts ns]) = .ret (.nx env1) := by
        have z : (exec (callF prim fs lv) s (envOf N [.crowd n ts ns]) >>= nxT) = .ret env1 := hpre
        revert z
        cases exec (callF prim fs lv) s (envOf N [.crowd n ts ns]) with
        | ret r =>
          intro z
          cases r with
          | nx e => cases z; rfl
          | rt d e => cases z
          | bk e => cases z
        | bad => intro z; cases z
        | draw n k => intro z; cases z
      rw [hs]
      exact fun Z1 G1 H1 σ1 ev1 f1 => fin f1 (by rw [ev1.plc 0 (by simpa using hk.plc s rfl)]; exact hσ) hev
theorem PrimOk.mono {W : Wd} {P : Program} {w : World} {mg : Str → Option Value} {base : Heap} {prim : Fns} {c c' : Nat} {p : String} (h : PrimOk W P w mg base prim c p) (hc : c ≤ c') : PrimOk W P w mg base prim c' p := by
  refine ⟨fun hne => ?_, fun he => ?_⟩
  · obtain ⟨a, m1, hh⟩ := (h.a hne).ex
    refine ⟨a, m1, ?_⟩
    rcases hh with ⟨fd2, ps2, m2, m3, m4⟩ | ⟨ini, fd2, ps2, sp2, m2, m3, m4, m5⟩
    · exact .inl ⟨fd2, ps2, m2, m3, FnOk.mono m4 hc⟩
    · exact .inr ⟨ini, fd2, ps2, sp2, m2, m3, FnOk.mono m4 hc, m5⟩
  · obtain ⟨c2, h2, e⟩ := h.eq he
    exact ⟨c2, Nat.le_trans h2 hc, e⟩
end Fm

/-! FmQ1: tools for the plain parts. -/
namespace Fm
open PySem PySem.Spec PyProof.Rows L2
theorem call_ret {prim : Fns} {fs : List DefS} {n : Nat} {f : String} {d : DefS} {ds : List D} {r : D} {env' : Env} (h : findD fs f = some d) (hl : ds.length = d.ps.length) (e : exec (callF prim fs n) d.body (envOf d.N ds) = .ret (.rt r env')) :
    callF prim fs (n + 1) f ds = .ret r := by
  rw [callF_def h, if_pos hl, e]
  rfl
theorem ev_and {F : Fns} {a b : E} {env : Env} {x y : Bool} (h1 : ev F a env = .ret (.bl x)) (h2 : x = true → ev F b env = .ret (.bl y)) : ev F (.and a b) env = .ret (.bl (x && y)) := by
  show (ev F a env >>= fun x => asB x >>= fun k => if k = true then ev F b env else T.ret (.bl false)) = _
  rw [h1, bind_ret', asB_bl, bind_ret']
  cases x with
  | true => rw [if_pos rfl, h2 rfl]; rfl
  | false => rfl
theorem ev_or {F : Fns} {a b : E} {env : Env} {x y : Bool} (h1 : ev F a env = .ret (.bl x)) (h2 : x = false → ev F b env = .ret (.bl y)) : ev F (.or a b) env = .ret (.bl (x || y)) := by
  show (ev F a env >>= fun x => asB x >>= fun k => if k = true then T.ret (.bl true) else ev F b env) = _
  rw [h1, bind_ret', asB_bl, bind_ret']
  cases x with
  | false => rw [if_neg (by decide), h2 rfl]; rfl
  | true => rfl
theorem ev_nt {F : Fns} {a : E} {env : Env} {x : Bool} (h : ev F a env = .ret (.bl x)) : ev F (.nt a) env = .ret (.bl (!x)) := by
  show (ev F a env >>= fun x => asB x >>= fun b => T.ret (D.bl (!b))) = _
  rw [h]
  rfl
theorem ev_chainLE {F : Fns} {a b c : E} {env : Env} {x y z : Int} (h1 : ev F a env = .ret (.int x)) (h2 : ev F b env = .ret (.int y)) (h3 : ev F c env = .ret (.int z)) : ev F (.chain .le .le a b c) env = .ret (.bl (decide (x ≤ y) && decide (y ≤ z))) := by
  show (ev F a env >>= fun x => ev F b env >>= fun y => op2 .le x y >>= fun z => asB z >>= fun k => if k = true then (ev F c env >>= fun w => op2 .le y w) else T.ret (.bl false)) = _
  rw [h1, bind_ret', h2, bind_ret', dle, bind_ret', asB_bl, bind_ret']
  by_cases h : x ≤ y
  · rw [decide_eq_true h, if_pos rfl, h3, bind_ret', dle]
    rfl
  · rw [decide_eq_false h, if_neg (by decide)]
    rfl
end Fm

/-! Ma: lists of numbers, lots, who is beside whom, what is taken. No program in sight. -/
namespace Fm
abbrev Asc (l : List Nat) : Prop := l.Pairwise (· < ·)
theorem asc_ext : ∀ {l m : List Nat}, Asc l → Asc m → (∀ x, x ∈ l ↔ x ∈ m) → l = m
  | [], [], _, _, _ => rfl
  | [], b :: m, _, _, h => absurd ((h b).mpr (.head _)) (by simp)
  | a :: l, [], _, _, h => absurd ((h a).mp (.head _)) (by simp)
  | a :: l, b :: m, h1, h2, h => by
    obtain ⟨p1, q1⟩ := List.pairwise_cons.mp h1
    obtain ⟨p2, q2⟩ := List.pairwise_cons.mp h2
    have e : a = b := by
      have x1 := (h a).mp (.head _)
      have x2 := (h b).mpr (.head _)
      rcases List.mem_cons.mp x1 with e | z1
      · exact e
      · rcases List.mem_cons.mp x2 with e | z2
        · exact e.symm
        · have := p2 a z1
          have := p1 b z2
          omega
    subst e
    rw [asc_ext q1 q2 fun x => ?_]
    constructor
    · intro hx
      rcases List.mem_cons.mp ((h x).mp (.tail _ hx)) with e | z
      · have := p1 x hx
        omega
      · exact z
    · intro hx
      rcases List.mem_cons.mp ((h x).mpr (.tail _ hx)) with e | z
      · have := p2 x hx
        omega
      · exact z
theorem asc_range (n : Nat) : Asc (List.range n) := List.pairwise_lt_range
theorem Asc.filter {l : List Nat} (h : Asc l) (p : Nat → Bool) : Asc (l.filter p) := List.Pairwise.filter p h
theorem Asc.nodup {l : List Nat} (h : Asc l) : l.Nodup := List.Pairwise.imp (fun h => by omega) h
/-- the lot of those below n for whom p -/
def lotOf (n : Nat) (p : Nat → Bool) : List Nat := (List.range n).filter p
theorem mem_lotOf {n x : Nat} {p : Nat → Bool} : x ∈ lotOf n p ↔ x < n ∧ p x = true := by simp [lotOf]
theorem asc_lotOf (n : Nat) (p : Nat → Bool) : Asc (lotOf n p) := (asc_range n).filter p
structure IsLot (n : Nat) (l : List Nat) : Prop where
  asc : Asc l
  lt : ∀ x ∈ l, x < n
theorem isLot_lotOf (n : Nat) (p : Nat → Bool) : IsLot n (lotOf n p) := ⟨asc_lotOf n p, fun _ h => (mem_lotOf.mp h).1⟩
theorem isLot_nil (n : Nat) : IsLot n [] := ⟨List.Pairwise.nil, fun _ h => (by cases h)⟩
theorem IsLot.ext {n m : Nat} {l k : List Nat} (h : IsLot n l) (h2 : IsLot m k) (e : ∀ x, x ∈ l ↔ x ∈ k) : l = k := asc_ext h.asc h2.asc e
theorem IsLot.canon {n : Nat} {l : List Nat} (h : IsLot n l) : l = lotOf n fun x => decide (x ∈ l) :=
  h.ext (isLot_lotOf n _) fun x => by
    rw [mem_lotOf, decide_eq_true_eq]
    exact ⟨fun hx => ⟨h.lt x hx, hx⟩, fun hx => hx.2⟩
theorem nodup_le {n : Nat} {l : List Nat} (h : l.Nodup) (hl : ∀ x ∈ l, x < n) : l.length ≤ n := by
  have := List.Nodup.length_le_of_subset h (l₂ := List.range n) (fun x hx => List.mem_range.mpr (hl x hx))
  simpa using this
theorem IsLot.len {n : Nat} {l : List Nat} (h : IsLot n l) : l.length ≤ n := nodup_le h.asc.nodup h.lt
/-! sorting -/
section
variable {α : Type}
def insG (le : α → α → Bool) (x : α) : List α → List α
  | [] => [x]
  | y :: r => if le x y then x :: y :: r else y :: insG le x r
def sortG (le : α → α → Bool) : List α → List α
  | [] => []
  | x :: r => insG le x (sortG le r)
theorem insG_perm (le : α → α → Bool) (x : α) : ∀ l, (insG le x l).Perm (x :: l)
  | [] => List.Perm.refl _
  | y :: r => by
    unfold insG
    split
    · exact List.Perm.refl _
    · exact ((insG_perm le x r).cons y).trans (List.Perm.swap x y r)
theorem sortG_perm (le : α → α → Bool) : ∀ l, (sortG le l).Perm l
  | [] => List.Perm.refl _
  | x :: r => (insG_perm le x _).trans ((sortG_perm le r).cons x)
theorem mem_sortG {le : α → α → Bool} {l : List α} {x : α} : x ∈ sortG le l ↔ x ∈ l := (sortG_perm le l).mem_iff
theorem len_sortG {le : α → α → Bool} {l : List α} : (sortG le l).length = l.length := (sortG_perm le l).length_eq
theorem insG_sorted {le : α → α → Bool} (tot : ∀ a b, le a b = true ∨ le b a = true) (tr : ∀ a b c, le a b = true → le b c = true → le a c = true) (x : α) : ∀ {l : List α}, l.Pairwise (fun a b => le a b = true) → (insG le x l).Pairwise (fun a b => le a b = true)
  | [], _ => List.pairwise_singleton _ _
  | y :: r, h => by
    obtain ⟨h1, h2⟩ := List.pairwise_cons.mp h
    unfold insG
    split
    · rename_i e
      refine List.pairwise_cons.mpr ⟨fun z hz => ?_, h⟩
      rcases List.mem_cons.mp hz with rfl | hz
      · exact e
      · exact tr _ _ _ e (h1 z hz)
    · rename_i e
      refine List.pairwise_cons.mpr ⟨fun z hz => ?_, insG_sorted tot tr x h2⟩
      rcases List.mem_cons.mp ((insG_perm le x r).mem_iff.mp hz) with rfl | hz
      · exact (tot y z).resolve_right e
      · exact h1 z hz
theorem sortG_sorted {le : α → α → Bool} (tot : ∀ a b, le a b = true ∨ le b a = true) (tr : ∀ a b c, le a b = true → le b c = true → le a c = true) : ∀ l : List α, (sortG le l).Pairwise (fun a b => le a b = true)
  | [] => List.Pairwise.nil
  | x :: r => insG_sorted tot tr x (sortG_sorted tot tr r)
end
def leN (a b : Nat) : Bool := decide (a ≤ b)
def sortN (l : List Nat) : List Nat := sortG leN l
theorem sortN_le (l : List Nat) : (sortN l).Pairwise (· ≤ ·) :=
  List.Pairwise.imp (fun h => of_decide_eq_true h) (sortG_sorted (fun a b => by simp [leN]; omega) (fun a b c h1 h2 => by simp [leN] at *; omega) l)
theorem mem_sortN {l : List Nat} {x : Nat} : x ∈ sortN l ↔ x ∈ l := mem_sortG
theorem sortN_asc {l : List Nat} (h : l.Nodup) : Asc (sortN l) := by
  have h1 := sortN_le l
  have h2 : (sortN l).Nodup := (sortG_perm leN l).nodup_iff.mpr h
  exact List.Pairwise.imp₂ (fun a b h1 h2 => by omega) h1 h2
theorem sortN_lotOf {n : Nat} {l : List Nat} {p : Nat → Bool} (h : l.Nodup) (e : ∀ x, x ∈ l ↔ x < n ∧ p x = true) : sortN l = lotOf n p :=
  asc_ext (sortN_asc h) (asc_lotOf n p) fun x => by rw [mem_sortN, mem_lotOf, e]
theorem sortN_lot {n : Nat} {l : List Nat} (h : l.Nodup) (hl : ∀ x ∈ l, x < n) : IsLot n (sortN l) := ⟨sortN_asc h, fun x hx => hl x (mem_sortN.mp hx)⟩
theorem sortN_self {l : List Nat} (h : Asc l) : sortN l = l := asc_ext (sortN_asc h.nodup) h fun x => mem_sortN
/-! ### crowds -/
structure Cr where
  n : Nat
  ts : List (Nat × Nat)
  ns : List Nat
def ltP (t u : Nat × Nat) : Prop := t.1 < u.1 ∨ (t.1 = u.1 ∧ t.2 < u.2)
structure Cr.Ok (c : Cr) : Prop where
  n1 : 1 ≤ c.n
  n9 : c.n ≤ 9
  tie : ∀ t ∈ c.ts, t.1 < t.2 ∧ t.2 < c.n
  srt : c.ts.Pairwise ltP
  nl : c.ns.length = c.n
  k9 : ∀ k ∈ c.ns, k ≤ 9
def adj (ts : List (Nat × Nat)) (a b : Nat) : Bool := decide ((min a b, max a b) ∈ ts)
def nbs (c : Cr) (p : Nat) : List Nat := lotOf c.n (adj c.ts p)
def need (c : Cr) (p : Nat) : Nat := c.ns.getD p 0
def cnt (c : Cr) (S : List Nat) (p : Nat) : Nat := ((nbs c p).filter fun b => decide (b ∈ S)).length
theorem adj_comm (ts : List (Nat × Nat)) (a b : Nat) : adj ts a b = adj ts b a := by
  unfold adj
  rw [Nat.min_comm, Nat.max_comm]
theorem adj_self {c : Cr} (h : c.Ok) (a : Nat) : adj c.ts a a = false := by
  unfold adj
  rw [decide_eq_false_iff_not]
  intro h2
  have := h.tie _ h2
  simp at this
theorem cnt_mono {c : Cr} {S S' : List Nat} {p : Nat} (h : ∀ x ∈ S, x ∈ S') : cnt c S p ≤ cnt c S' p := by
  unfold cnt
  rw [← List.countP_eq_length_filter, ← List.countP_eq_length_filter]
  exact List.countP_mono_left fun x _ hx => decide_eq_true (h x (of_decide_eq_true hx))
theorem cnt_congr {c : Cr} {S S' : List Nat} {p : Nat} (h : ∀ x, x ∈ S ↔ x ∈ S') : cnt c S p = cnt c S' p :=
  Nat.le_antisymm (cnt_mono fun x => (h x).mp) (cnt_mono fun x => (h x).mpr)
theorem cnt_le8 {c : Cr} (h : c.Ok) {p : Nat} (hp : p < c.n) (S : List Nat) : cnt c S p ≤ 8 := by
  unfold cnt
  have h1 : ((nbs c p).filter fun b => decide (b ∈ S)).length ≤ (nbs c p).length := List.length_filter_le _ _
  have h2 : (p :: nbs c p).length ≤ c.n := nodup_le (List.nodup_cons.mpr ⟨fun hx => (by
    have := (mem_lotOf.mp hx).2
    rw [adj_self h] at this
    cases this), (asc_lotOf _ _).nodup⟩) fun x hx => by
      rcases List.mem_cons.mp hx with rfl | hx
      · exact hp
      · exact (mem_lotOf.mp hx).1
  have := h.n9
  simp at h2
  omega
/-! ### taking up -/
structure Clo (c : Cr) (f Y : List Nat) : Prop where
  sub : ∀ x ∈ f, x ∈ Y
  cl : ∀ p, p < c.n → need c p ≤ cnt c Y p → p ∈ Y
open Classical in
noncomputable def tk (c : Cr) (f : List Nat) : List Nat := lotOf c.n fun p => decide (∀ Y, Clo c f Y → p ∈ Y)
open Classical in
theorem mem_tk {c : Cr} {f : List Nat} {p : Nat} : p ∈ tk c f ↔ p < c.n ∧ ∀ Y, Clo c f Y → p ∈ Y := by
  unfold tk
  rw [mem_lotOf, decide_eq_true_eq]
theorem tk_lot (c : Cr) (f : List Nat) : IsLot c.n (tk c f) := isLot_lotOf _ _
theorem tk_least {c : Cr} {f Y : List Nat} (h : Clo c f Y) : ∀ x ∈ tk c f, x ∈ Y := fun _ hx => (mem_tk.mp hx).2 Y h
theorem tk_clo {c : Cr} {f : List Nat} (hf : ∀ x ∈ f, x < c.n) : Clo c f (tk c f) :=
  ⟨fun x hx => mem_tk.mpr ⟨hf x hx, fun Y h => h.sub x hx⟩, fun p hp hn => mem_tk.mpr ⟨hp, fun Y h => h.cl p hp (Nat.le_trans hn (cnt_mono (tk_least h)))⟩⟩
theorem tk_uniq {c : Cr} {f X : List Nat} (hf : ∀ x ∈ f, x < c.n) (hX : IsLot c.n X) (h : Clo c f X) (hl : ∀ Y, Clo c f Y → ∀ x ∈ X, x ∈ Y) : X = tk c f :=
  hX.ext (tk_lot c f) fun x => ⟨hl _ (tk_clo hf) x, tk_least h x⟩
def canIn (c : Cr) (S : List Nat) : List Nat := lotOf c.n fun p => !decide (p ∈ S) && decide (need c p ≤ cnt c S p)
theorem mem_canIn {c : Cr} {S : List Nat} {p : Nat} : p ∈ canIn c S ↔ p < c.n ∧ p ∉ S ∧ need c p ≤ cnt c S p := by
  unfold canIn
  rw [mem_lotOf, Bool.and_eq_true, decide_eq_true_eq, Bool.not_eq_true', decide_eq_false_iff_not]
theorem canIn_lot (c : Cr) (S : List Nat) : IsLot c.n (canIn c S) := isLot_lotOf _ _
theorem canIn_congr {c : Cr} {S S' : List Nat} (h : ∀ x, x ∈ S ↔ x ∈ S') : canIn c S = canIn c S' :=
  (canIn_lot c S).ext (canIn_lot c S') fun x => by rw [mem_canIn, mem_canIn, cnt_congr h, h]
theorem canIn_nil {c : Cr} {f S : List Nat} (h : canIn c S = []) (hs : ∀ x ∈ f, x ∈ S) : Clo c f S :=
  ⟨hs, fun p hp hn => Classical.byContradiction fun z => by
    have : p ∈ canIn c S := mem_canIn.mpr ⟨hp, z, hn⟩
    rw [h] at this
    cases this⟩
/-- the least person first, one behind another -/
def ordIn (c : Cr) : Nat → List Nat → List Nat
  | 0, _ => []
  | k + 1, S => match canIn c S with
    | [] => []
    | p :: _ => p :: ordIn c k (S ++ [p])
def ord (c : Cr) (f : List Nat) : List Nat := ordIn c (c.n + 1) f
/-- so far: of those that must have it alone -/
structure Far (c : Cr) (f S : List Nat) : Prop where
  nd : S.Nodup
  lt : ∀ x ∈ S, x < c.n
  sub : ∀ x ∈ f, x ∈ S
  must : ∀ Y, Clo c f Y → ∀ x ∈ S, x ∈ Y
theorem Far.start {c : Cr} {f : List Nat} (h : f.Nodup) (hl : ∀ x ∈ f, x < c.n) : Far c f f := ⟨h, hl, fun _ h => h, fun _ h => h.sub⟩
theorem Far.len {c : Cr} {f S : List Nat} (h : Far c f S) : S.length ≤ c.n := nodup_le h.nd h.lt
theorem Far.put {c : Cr} {f S : List Nat} (h : Far c f S) {p : Nat} (hp : p ∈ canIn c S) : Far c f (S ++ [p]) := by
  obtain ⟨h1, h2, h3⟩ := mem_canIn.mp hp
  refine ⟨List.nodup_append.mpr ⟨h.nd, by simp, fun a ha b hb e => ?_⟩, fun x hx => ?_, fun x hx => List.mem_append_left _ (h.sub x hx), fun Y hY x hx => ?_⟩
  · rw [List.mem_singleton.mp hb] at e
    exact h2 (e ▸ ha)
  · rcases List.mem_append.mp hx with hx | hx
    · exact h.lt x hx
    · rw [List.mem_singleton.mp hx]; exact h1
  · rcases List.mem_append.mp hx with hx | hx
    · exact h.must Y hY x hx
    · rw [List.mem_singleton.mp hx]
      exact hY.cl p h1 (Nat.le_trans h3 (cnt_mono (h.must Y hY)))
theorem Far.tk {c : Cr} {f S : List Nat} (h : Far c f S) (hn : canIn c S = []) : sortN S = tk c f :=
  tk_uniq (fun x hx => h.lt x (h.sub x hx)) (sortN_lot h.nd h.lt) (by
    have := canIn_nil hn h.sub
    exact ⟨fun x hx => mem_sortN.mpr (this.sub x hx), fun p hp hq => mem_sortN.mpr (this.cl p hp (by rwa [cnt_congr (fun x => mem_sortN)] at hq))⟩) fun Y hY x hx => h.must Y hY x (mem_sortN.mp hx)
theorem ordIn_far {c : Cr} {f : List Nat} : ∀ (k : Nat) (S : List Nat), Far c f S → Far c f (S ++ ordIn c k S) ∧ (c.n < S.length + k → canIn c (S ++ ordIn c k S) = [])
  | 0, S, h => by
    have := h.len
    exact ⟨by simpa [ordIn] using h, fun z => absurd z (by omega)⟩
  | k + 1, S, h => by
    unfold ordIn
    split
    · rename_i e
      simp only [List.append_nil]
      exact ⟨h, fun _ => e⟩
    · rename_i p r e
      have hp : p ∈ canIn c S := by rw [e]; exact .head _
      have ih := ordIn_far k (S ++ [p]) (h.put hp)
      rw [List.append_assoc] at ih
      exact ⟨ih.1, fun z => ih.2 (by simp; omega)⟩
theorem ord_far {c : Cr} {f : List Nat} (h : f.Nodup) (hl : ∀ x ∈ f, x < c.n) : Far c f (f ++ ord c f) ∧ canIn c (f ++ ord c f) = [] :=
  ⟨(ordIn_far _ f (Far.start h hl)).1, (ordIn_far _ f (Far.start h hl)).2 (by omega)⟩
theorem tk_ord {c : Cr} {f : List Nat} (h : f.Nodup) (hl : ∀ x ∈ f, x < c.n) : sortN (f ++ ord c f) = tk c f := (ord_far h hl).1.tk (ord_far h hl).2
theorem Far.all {c : Cr} {f S : List Nat} (h : Far c f S) : Far c f (S ++ canIn c S) := by
  refine ⟨List.nodup_append.mpr ⟨h.nd, (canIn_lot c S).asc.nodup, fun a ha b hb e => (mem_canIn.mp hb).2.1 (e ▸ ha)⟩, fun x hx => ?_, fun x hx => List.mem_append_left _ (h.sub x hx), fun Y hY x hx => ?_⟩
  · rcases List.mem_append.mp hx with hx | hx
    · exact h.lt x hx
    · exact (mem_canIn.mp hx).1
  · rcases List.mem_append.mp hx with hx | hx
    · exact h.must Y hY x hx
    · obtain ⟨h1, h2, h3⟩ := mem_canIn.mp hx
      exact hY.cl x h1 (Nat.le_trans h3 (cnt_mono (h.must Y hY)))
theorem sublist_lot {n : Nat} {l : List Nat} (h : l.Sublist (List.range n)) : IsLot n l := ⟨List.Pairwise.sublist h (asc_range n), fun x hx => List.mem_range.mp (h.subset hx)⟩
def leP (t u : Nat × Nat) : Bool := decide (t.1 < u.1 ∨ (t.1 = u.1 ∧ t.2 ≤ u.2))
theorem sortP_lt {ts : List (Nat × Nat)} (h : ts.Nodup) : (sortG leP ts).Pairwise ltP := by
  have h1 := sortG_sorted (le := leP) (fun a b => by simp [leP]; omega) (fun a b c h1 h2 => by simp [leP] at *; omega) ts
  have h2 : (sortG leP ts).Nodup := (sortG_perm leP ts).nodup_iff.mpr h
  refine List.Pairwise.imp₂ (fun a b h1 h2 => ?_) h1 h2
  have h3 := of_decide_eq_true h1
  unfold ltP
  rcases h3 with h3 | ⟨h3, h4⟩
  · exact .inl h3
  · refine .inr ⟨h3, ?_⟩
    have : a.2 ≠ b.2 := fun e => h2 (by ext <;> assumption)
    omega
/-! ### one need otherwise -/
def setN (c : Cr) (p k : Nat) : Cr := ⟨c.n, c.ts, c.ns.set p k⟩
theorem need_setN {c : Cr} (hl : c.ns.length = c.n) {p k q : Nat} (hp : p < c.n) : need (setN c p k) q = if q = p then k else need c q := by
  show (c.ns.set p k).getD q 0 = _
  rw [List.getD_eq_getElem?_getD, List.getElem?_set]
  by_cases h : p = q
  · subst h
    simp [hl, hp]
  · have : ¬ q = p := fun e => h e.symm
    simp [h, this, need]
theorem cnt_setN (c : Cr) (p k : Nat) (S : List Nat) (q : Nat) : cnt (setN c p k) S q = cnt c S q := rfl
/-- a person takes it up just if its need is not above those beside it who have it without it -/
theorem tk_need {c : Cr} (h : c.Ok) {f : List Nat} (hf : ∀ x ∈ f, x < c.n) {p k : Nat} (hp : p < c.n) (h0 : p ∉ f) : p ∈ tk (setN c p k) f ↔ k ≤ cnt c (tk (setN c p 9) f) p := by
  have hX : Clo (setN c p 9) f (tk (setN c p 9) f) := tk_clo hf
  have hk : Clo (setN c p k) f (tk (setN c p k) f) := tk_clo hf
  have hn : ∀ k q, need (setN c p k) q = if q = p then k else need c q := fun k q => need_setN h.nl hp
  have c8 := fun S => cnt_le8 h hp S
  -- it never takes it up with 9
  have hpX : p ∉ tk (setN c p 9) f := fun hx => by
    have hY : Clo (setN c p 9) f ((tk (setN c p 9) f).filter fun x => decide (x ≠ p)) := by
      refine ⟨fun x hx => List.mem_filter.mpr ⟨hX.sub x hx, decide_eq_true fun e => h0 (e ▸ hx)⟩, fun q hq hc => ?_⟩
      have hm : cnt (setN c p 9) ((tk (setN c p 9) f).filter fun x => decide (x ≠ p)) q ≤ cnt (setN c p 9) (tk (setN c p 9) f) q := cnt_mono fun x hx => (List.mem_filter.mp hx).1
      by_cases e : q = p
      · subst e
        rw [hn, if_pos rfl, cnt_setN] at hc
        have := c8 ((tk (setN c q 9) f).filter fun x => decide (x ≠ q))
        omega
      · exact List.mem_filter.mpr ⟨hX.cl q hq (Nat.le_trans hc hm), decide_eq_true e⟩
    have := tk_least hY p hx
    simp at this
  constructor
  · intro hx
    refine Classical.byContradiction fun z => ?_
    have hY : Clo (setN c p k) f (tk (setN c p 9) f) := ⟨hX.sub, fun q hq hc => by
      by_cases e : q = p
      · subst e
        rw [hn, if_pos rfl, cnt_setN] at hc
        exact absurd hc z
      · refine hX.cl q hq ?_
        rw [hn, if_neg e] at hc ⊢
        exact hc⟩
    exact hpX (tk_least hY p hx)
  · intro hc
    refine Classical.byContradiction fun z => ?_
    have hY : Clo (setN c p 9) f (tk (setN c p k) f) := ⟨hk.sub, fun q hq hc2 => by
      by_cases e : q = p
      · subst e
        rw [hn, if_pos rfl, cnt_setN] at hc2
        have := c8 (tk (setN c q k) f)
        omega
      · refine hk.cl q hq ?_
        rw [hn, if_neg e] at hc2 ⊢
        exact hc2⟩
    have h1 : cnt c (tk (setN c p 9) f) p ≤ cnt c (tk (setN c p k) f) p := cnt_mono (tk_least hY)
    refine z (hk.cl p hp ?_)
    rw [hn, if_pos rfl, cnt_setN]
    omega
/-- what is taken, to be computed -/
def tkC (c : Cr) (f : List Nat) : List Nat := sortN (f ++ ord c f)
theorem tk_C {c : Cr} {f : List Nat} (h : f.Nodup) (hl : ∀ x ∈ f, x < c.n) : tk c f = tkC c f := (tk_ord h hl).symm
def lotB (n : Nat) : List Nat → Bool
  | [] => true
  | [a] => decide (a < n)
  | a :: b :: l => decide (a < b) && lotB n (b :: l)
theorem lotB_ok {n : Nat} : ∀ {l : List Nat}, lotB n l = true → IsLot n l
  | [], _ => isLot_nil n
  | [a], h => ⟨List.pairwise_singleton _ _, fun x hx => by rw [List.mem_singleton.mp hx]; exact of_decide_eq_true h⟩
  | a :: b :: l, h => by
    obtain ⟨h1, h2⟩ := Bool.and_eq_true_iff.mp (show (decide (a < b) && lotB n (b :: l)) = true from h)
    have ih := lotB_ok h2
    have h3 := of_decide_eq_true h1
    have hb := ih.lt b (.head _)
    refine ⟨List.pairwise_cons.mpr ⟨fun x hx => ?_, ih.asc⟩, fun x hx => ?_⟩
    · rcases List.mem_cons.mp hx with rfl | hx
      · exact h3
      · have := (List.pairwise_cons.mp ih.asc).1 x hx
        omega
    · rcases List.mem_cons.mp hx with rfl | hx
      · omega
      · exact ih.lt x hx
def ltPB (t u : Nat × Nat) : Bool := decide (t.1 < u.1) || (decide (t.1 = u.1) && decide (t.2 < u.2))
def crB (c : Cr) : Bool := decide (1 ≤ c.n) && (decide (c.n ≤ 9) && ((c.ts.all fun t => decide (t.1 < t.2) && decide (t.2 < c.n)) && (((c.ts.zip c.ts.tail).all fun p => ltPB p.1 p.2) && (decide (c.ns.length = c.n) && c.ns.all fun k => decide (k ≤ 9)))))
end Fm

/-! Mb: lots of lots: their order, all of them, the least ones. -/
namespace Fm
/-! the order of lists of numbers -/
def cmpL : List Nat → List Nat → Ordering
  | [], [] => .eq
  | [], _ :: _ => .lt
  | _ :: _, [] => .gt
  | x :: xs, y :: ys => (compare x y).then (cmpL xs ys)
def leL (a b : List Nat) : Bool := cmpL a b != .gt
theorem cmpN_cases (a b : Nat) : (a < b ∧ compare a b = .lt) ∨ (a = b ∧ compare a b = .eq) ∨ (b < a ∧ compare a b = .gt) := by
  rcases Nat.lt_trichotomy a b with h | h | h
  · exact .inl ⟨h, Nat.compare_eq_lt.mpr h⟩
  · exact .inr (.inl ⟨h, Nat.compare_eq_eq.mpr h⟩)
  · exact .inr (.inr ⟨h, Nat.compare_eq_gt.mpr h⟩)
theorem leL_nil (b : List Nat) : leL [] b = true := by cases b <;> rfl
theorem leL_cons_nil (x : Nat) (xs : List Nat) : leL (x :: xs) [] = false := rfl
theorem leL_cons (x y : Nat) (xs ys : List Nat) : leL (x :: xs) (y :: ys) = true ↔ x < y ∨ (x = y ∧ leL xs ys = true) := by
  show ((compare x y).then (cmpL xs ys) != .gt) = true ↔ x < y ∨ (x = y ∧ (cmpL xs ys != .gt) = true)
  rcases cmpN_cases x y with ⟨h, e⟩ | ⟨h, e⟩ | ⟨h, e⟩
  · rw [e]
    simp [Ordering.then, h]
  · rw [e]
    subst h
    simp [Ordering.then]
  · rw [e]
    simp [Ordering.then]
    omega
theorem leL_total : ∀ a b : List Nat, leL a b = true ∨ leL b a = true
  | [], b => .inl (leL_nil b)
  | a, [] => .inr (leL_nil a)
  | x :: xs, y :: ys => by
    rw [leL_cons, leL_cons]
    rcases Nat.lt_trichotomy x y with h | h | h
    · exact .inl (.inl h)
    · rcases leL_total xs ys with z | z
      · exact .inl (.inr ⟨h, z⟩)
      · exact .inr (.inr ⟨h.symm, z⟩)
    · exact .inr (.inl h)
theorem leL_trans : ∀ a b c : List Nat, leL a b = true → leL b c = true → leL a c = true
  | [], _, c, _, _ => leL_nil c
  | x :: xs, [], _, h, _ => by cases h
  | x :: xs, y :: ys, [], _, h => by cases h
  | x :: xs, y :: ys, z :: zs, h1, h2 => by
    rw [leL_cons] at *
    rcases h1 with h1 | ⟨rfl, h1⟩ <;> rcases h2 with h2 | ⟨rfl, h2⟩
    · exact .inl (by omega)
    · exact .inl h1
    · exact .inl h2
    · exact .inr ⟨rfl, leL_trans xs ys zs h1 h2⟩
theorem leL_antisymm : ∀ a b : List Nat, leL a b = true → leL b a = true → a = b
  | [], [], _, _ => rfl
  | [], _ :: _, _, h => by cases h
  | _ :: _, [], h, _ => by cases h
  | x :: xs, y :: ys, h1, h2 => by
    rw [leL_cons] at *
    rcases h1 with h1 | ⟨rfl, h1⟩ <;> rcases h2 with h2 | ⟨h, h2⟩
    · omega
    · omega
    · omega
    · rw [leL_antisymm xs ys h1 h2]
/-- a sorted list is known by its members -/
theorem sorted_ext {α : Type} {le : α → α → Bool} (anti : ∀ a b, le a b = true → le b a = true → a = b) : ∀ {l m : List α}, l.Pairwise (fun a b => le a b = true) → m.Pairwise (fun a b => le a b = true) → l.Nodup → m.Nodup → (∀ x, x ∈ l ↔ x ∈ m) → l = m
  | [], [], _, _, _, _, _ => rfl
  | [], b :: m, _, _, _, _, h => absurd ((h b).mpr (.head _)) (by simp)
  | a :: l, [], _, _, _, _, h => absurd ((h a).mp (.head _)) (by simp)
  | a :: l, b :: m, h1, h2, n1, n2, h => by
    obtain ⟨p1, q1⟩ := List.pairwise_cons.mp h1
    obtain ⟨p2, q2⟩ := List.pairwise_cons.mp h2
    obtain ⟨a1, m1⟩ := List.nodup_cons.mp n1
    obtain ⟨a2, m2⟩ := List.nodup_cons.mp n2
    have e : a = b := by
      rcases List.mem_cons.mp ((h a).mp (.head _)) with e | z1
      · exact e
      · rcases List.mem_cons.mp ((h b).mpr (.head _)) with e | z2
        · exact e.symm
        · exact anti a b (p1 b z2) (p2 a z1)
    subst e
    rw [sorted_ext anti q1 q2 m1 m2 fun x => ?_]
    constructor
    · intro hx
      rcases List.mem_cons.mp ((h x).mp (.tail _ hx)) with e | z
      · exact absurd (e ▸ hx) a1
      · exact z
    · intro hx
      rcases List.mem_cons.mp ((h x).mpr (.tail _ hx)) with e | z
      · exact absurd (e ▸ hx) a2
      · exact z
/-! fewer ahead, then ascending -/
def leSL (a b : Nat × List Nat) : Bool := decide (a.1 < b.1) || (decide (a.1 = b.1) && leL a.2 b.2)
theorem leSL_iff {a b : Nat × List Nat} : leSL a b = true ↔ a.1 < b.1 ∨ (a.1 = b.1 ∧ leL a.2 b.2 = true) := by simp [leSL]
theorem leSL_total (a b : Nat × List Nat) : leSL a b = true ∨ leSL b a = true := by
  rw [leSL_iff, leSL_iff]
  rcases Nat.lt_trichotomy a.1 b.1 with h | h | h
  · exact .inl (.inl h)
  · rcases leL_total a.2 b.2 with z | z
    · exact .inl (.inr ⟨h, z⟩)
    · exact .inr (.inr ⟨h.symm, z⟩)
  · exact .inr (.inl h)
theorem leSL_trans (a b c : Nat × List Nat) (h1 : leSL a b = true) (h2 : leSL b c = true) : leSL a c = true := by
  rw [leSL_iff] at *
  rcases h1 with h1 | ⟨e1, h1⟩ <;> rcases h2 with h2 | ⟨e2, h2⟩
  · exact .inl (by omega)
  · exact .inl (by omega)
  · exact .inl (by omega)
  · exact .inr ⟨by omega, leL_trans _ _ _ h1 h2⟩
/-! all lots -/
def subs : Nat → List (List Nat)
  | 0 => [[]]
  | n + 1 => subs n ++ (subs n).map (· ++ [n])
def allLots (n : Nat) : List (List Nat) := (sortG leSL ((subs n).map fun l => (l.length, l))).map Prod.snd
theorem lot_succ {n : Nat} {l : List Nat} : IsLot (n + 1) l ↔ IsLot n l ∨ ∃ m, IsLot n m ∧ l = m ++ [n] := by
  constructor
  · intro h
    by_cases hn : n ∈ l
    · refine .inr ⟨lotOf n fun x => decide (x ∈ l), isLot_lotOf _ _, ?_⟩
      refine asc_ext h.asc ?_ fun x => ?_
      · refine List.pairwise_append.mpr ⟨asc_lotOf _ _, List.pairwise_singleton _ _, fun a ha b hb => ?_⟩
        rw [List.mem_singleton.mp hb]
        exact (mem_lotOf.mp ha).1
      · rw [List.mem_append, mem_lotOf, List.mem_singleton, decide_eq_true_eq]
        constructor
        · intro hx
          have := h.lt x hx
          by_cases e : x = n
          · exact .inr e
          · exact .inl ⟨by omega, hx⟩
        · rintro (hx | rfl)
          · exact hx.2
          · exact hn
    · refine .inl ⟨h.asc, fun x hx => ?_⟩
      have := h.lt x hx
      have : x ≠ n := fun e => hn (e ▸ hx)
      omega
  · rintro (h | ⟨m, h, rfl⟩)
    · exact ⟨h.asc, fun x hx => Nat.lt_succ_of_lt (h.lt x hx)⟩
    · refine ⟨List.pairwise_append.mpr ⟨h.asc, List.pairwise_singleton _ _, fun a ha b hb => ?_⟩, fun x hx => ?_⟩
      · rw [List.mem_singleton.mp hb]
        exact h.lt a ha
      · rcases List.mem_append.mp hx with hx | hx
        · have := h.lt x hx
          omega
        · rw [List.mem_singleton.mp hx]
          omega
theorem mem_subs : ∀ {n : Nat} {l : List Nat}, l ∈ subs n ↔ IsLot n l
  | 0, l => by
    constructor
    · intro h
      rw [List.mem_singleton.mp h]
      exact isLot_nil 0
    · intro h
      cases l with
      | nil => exact .head _
      | cons a l => exact absurd (h.lt a (.head _)) (Nat.not_lt_zero a)
  | n + 1, l => by
    show l ∈ subs n ++ (subs n).map (· ++ [n]) ↔ _
    rw [List.mem_append, mem_subs, List.mem_map, lot_succ]
    constructor
    · rintro (h | ⟨m, hm, rfl⟩)
      · exact .inl h
      · exact .inr ⟨m, mem_subs.mp hm, rfl⟩
    · rintro (h | ⟨m, hm, rfl⟩)
      · exact .inl h
      · exact .inr ⟨m, mem_subs.mpr hm, rfl⟩
theorem subs_nodup : ∀ n : Nat, (subs n).Nodup
  | 0 => by simp [subs]
  | n + 1 => by
    refine List.nodup_append.mpr ⟨subs_nodup n, ?_, fun a ha b hb e => ?_⟩
    · exact List.Pairwise.map _ (fun a b h e => h (List.append_cancel_right e)) (subs_nodup n)
    · obtain ⟨m, hm, rfl⟩ := List.mem_map.mp hb
      have h1 := (mem_subs.mp ha).lt n (by rw [e]; simp)
      omega
theorem subs_len : ∀ n : Nat, (subs n).length = 2 ^ n
  | 0 => rfl
  | n + 1 => by
    show (subs n ++ (subs n).map (· ++ [n])).length = _
    rw [List.length_append, List.length_map, subs_len n, Nat.pow_succ]
    omega
theorem mem_allLots {n : Nat} {l : List Nat} : l ∈ allLots n ↔ IsLot n l := by
  unfold allLots
  rw [List.mem_map]
  constructor
  · rintro ⟨p, hp, rfl⟩
    obtain ⟨m, hm, rfl⟩ := List.mem_map.mp (mem_sortG.mp hp)
    exact mem_subs.mp hm
  · intro h
    exact ⟨(l.length, l), mem_sortG.mpr (List.mem_map.mpr ⟨l, mem_subs.mpr h, rfl⟩), rfl⟩
theorem allLots_len (n : Nat) : (allLots n).length = 2 ^ n := by
  unfold allLots
  rw [List.length_map, len_sortG, List.length_map, subs_len]
theorem allLots_nodup (n : Nat) : (allLots n).Nodup := by
  have h0 : ((subs n).map fun l => (l.length, l)).Nodup := List.Pairwise.map _ (fun a b h e => h (congrArg Prod.snd e)) (subs_nodup n)
  have h1 : (sortG leSL ((subs n).map fun l => (l.length, l))).Nodup := (sortG_perm _ _).nodup_iff.mpr h0
  unfold allLots
  refine List.pairwise_map.mpr (List.Pairwise.imp_of_mem (fun {a b} ha hb h e => h ?_) h1)
  obtain ⟨x, _, rfl⟩ := List.mem_map.mp (mem_sortG.mp ha)
  obtain ⟨y, _, rfl⟩ := List.mem_map.mp (mem_sortG.mp hb)
  have e' : x = y := e
  rw [e']
/-- fewer ahead, then ascending -/
def leS (a b : List Nat) : Prop := a.length < b.length ∨ (a.length = b.length ∧ leL a b = true)
theorem allLots_sorted (n : Nat) : (allLots n).Pairwise leS := by
  unfold allLots
  refine List.pairwise_map.mpr (List.Pairwise.imp_of_mem (fun {a b} ha hb h => ?_) (sortG_sorted leSL_total leSL_trans _))
  obtain ⟨x, _, rfl⟩ := List.mem_map.mp (mem_sortG.mp ha)
  obtain ⟨y, _, rfl⟩ := List.mem_map.mp (mem_sortG.mp hb)
  exact leSL_iff.mp h
/-! the least of some lots -/
def within (a b : List Nat) : Bool := a.all fun x => decide (x ∈ b)
theorem within_iff {a b : List Nat} : within a b = true ↔ ∀ x ∈ a, x ∈ b := by simp [within]
def hasWithin (lot : List Nat) (lots : List (List Nat)) : Bool := lots.any fun l => within l lot
def meetsB (lot : List Nat) (lots : List (List Nat)) : Bool := lots.all fun o => o.any fun x => decide (x ∈ lot)
def leastGo (lots : List (List Nat)) : List (List Nat) := lots.foldl (fun f l => if hasWithin l f then f else f ++ [l]) []
def leastOf (lots : List (List Nat)) : List (List Nat) := sortG leL (leastGo lots)
theorem within_refl (a : List Nat) : within a a = true := within_iff.mpr fun _ h => h
theorem within_trans {a b c : List Nat} (h1 : within a b = true) (h2 : within b c = true) : within a c = true := within_iff.mpr fun x hx => within_iff.mp h2 x (within_iff.mp h1 x hx)
theorem within_anti {n : Nat} {a b : List Nat} (ha : IsLot n a) (hb : IsLot n b) (h1 : within a b = true) (h2 : within b a = true) : a = b :=
  ha.ext hb fun x => ⟨within_iff.mp h1 x, within_iff.mp h2 x⟩
theorem within_len {n : Nat} {a b : List Nat} (ha : IsLot n a) (h : within a b = true) : a.length ≤ b.length :=
  List.Nodup.length_le_of_subset ha.asc.nodup fun x hx => within_iff.mp h x hx
theorem within_eq {n : Nat} {a b : List Nat} (ha : IsLot n a) (hb : IsLot n b) (h : within a b = true) (hl : b.length ≤ a.length) : a = b := by
  refine within_anti ha hb h (within_iff.mpr fun x hx => Classical.byContradiction fun z => ?_)
  have h1 : (x :: a).length ≤ b.length := List.Nodup.length_le_of_subset (List.nodup_cons.mpr ⟨z, ha.asc.nodup⟩) fun y hy => by
    rcases List.mem_cons.mp hy with rfl | hy
    · exact hx
    · exact within_iff.mp h y hy
  simp at h1
  omega
theorem leastGo_snoc (lots : List (List Nat)) (l : List Nat) : leastGo (lots ++ [l]) = if hasWithin l (leastGo lots) then leastGo lots else leastGo lots ++ [l] := by
  unfold leastGo
  rw [List.foldl_append]
  rfl
theorem hasWithin_iff {l : List Nat} {f : List (List Nat)} : hasWithin l f = true ↔ ∃ m ∈ f, within m l = true := by simp [hasWithin]
/-- what is gone through so far -/
theorem leastGo_ok {n : Nat} : ∀ (r : List (List Nat)), (∀ l ∈ r.reverse, IsLot n l) → r.reverse.Pairwise (fun a b => a.length ≤ b.length) →
    (∀ x ∈ leastGo r.reverse, x ∈ r.reverse) ∧ (∀ l ∈ r.reverse, ∃ m ∈ leastGo r.reverse, within m l = true) ∧ (leastGo r.reverse).Pairwise (fun a b => within a b = false ∧ within b a = false)
  | [], _, _ => by simp [leastGo]
  | l :: r, hl, hs => by
    rw [List.reverse_cons] at hl hs ⊢
    obtain ⟨hs1, _, hs2⟩ := List.pairwise_append.mp hs
    obtain ⟨i1, i2, i3⟩ := leastGo_ok r (fun x hx => hl x (List.mem_append_left _ hx)) hs1
    have hll := hl l (by simp)
    rw [leastGo_snoc]
    cases hw : hasWithin l (leastGo r.reverse) with
    | true =>
      simp only [if_true]
      refine ⟨fun x hx => List.mem_append_left _ (i1 x hx), fun x hx => ?_, i3⟩
      rcases List.mem_append.mp hx with hx | hx
      · exact i2 x hx
      · rw [List.mem_singleton.mp hx]
        exact hasWithin_iff.mp hw
    | false =>
      simp only [Bool.false_eq_true, if_false]
      have hw' : ∀ m ∈ leastGo r.reverse, within m l = false := fun m hm => by
        cases e : within m l with
        | false => rfl
        | true =>
          rw [hasWithin_iff.mpr ⟨m, hm, e⟩] at hw
          cases hw
      refine ⟨fun x hx => ?_, fun x hx => ?_, List.pairwise_append.mpr ⟨i3, List.pairwise_singleton _ _, fun a ha b hb => ?_⟩⟩
      · rcases List.mem_append.mp hx with hx | hx
        · exact List.mem_append_left _ (i1 x hx)
        · exact List.mem_append_right _ hx
      · rcases List.mem_append.mp hx with hx | hx
        · obtain ⟨m, hm, h⟩ := i2 x hx
          exact ⟨m, List.mem_append_left _ hm, h⟩
        · rw [List.mem_singleton.mp hx]
          exact ⟨l, by simp, within_refl l⟩
      · rw [List.mem_singleton.mp hb]
        refine ⟨hw' a ha, ?_⟩
        cases e : within l a with
        | false => rfl
        | true =>
          have hal := hl a (List.mem_append_left _ (i1 a ha))
          have h1 := hs2 a (i1 a ha) l (by simp)
          have h2 := within_eq hll hal e h1
          have := hw' a ha
          rw [← h2, within_refl] at this
          cases this
/-- a list of lots, fewer ahead -/
structure Lots (n : Nat) (lots : List (List Nat)) : Prop where
  lot : ∀ l ∈ lots, IsLot n l
  len : lots.Pairwise fun a b => a.length ≤ b.length
theorem lots_all (n : Nat) : Lots n (allLots n) := ⟨fun l h => mem_allLots.mp h, List.Pairwise.imp (fun h => by rcases h with h | h <;> omega) (allLots_sorted n)⟩
theorem Lots.filter {n : Nat} {lots : List (List Nat)} (h : Lots n lots) (p : List Nat → Bool) : Lots n (lots.filter p) := ⟨fun l hl => h.lot l (List.mem_filter.mp hl).1, h.len.filter p⟩
theorem Lots.go {n : Nat} {lots : List (List Nat)} (h : Lots n lots) : (∀ x ∈ leastGo lots, x ∈ lots) ∧ (∀ l ∈ lots, ∃ m ∈ leastGo lots, within m l = true) ∧ (leastGo lots).Pairwise (fun a b => within a b = false ∧ within b a = false) := by
  have := leastGo_ok (n := n) lots.reverse
  rw [List.reverse_reverse] at this
  exact this h.lot h.len
theorem mem_leastOf {n : Nat} {lots : List (List Nat)} (h : Lots n lots) {x : List Nat} : x ∈ leastOf lots ↔ x ∈ lots ∧ ∀ y ∈ lots, within y x = true → y = x := by
  unfold leastOf
  rw [mem_sortG]
  obtain ⟨i1, i2, i3⟩ := h.go
  have anti : ∀ a ∈ leastGo lots, ∀ b ∈ leastGo lots, within a b = true → a = b := by
    intro a ha b hb hab
    refine Classical.byContradiction fun hne => ?_
    obtain ⟨i, hi, rfl⟩ := List.getElem_of_mem ha
    obtain ⟨j, hj, rfl⟩ := List.getElem_of_mem hb
    have p := List.pairwise_iff_getElem.mp i3
    rcases Nat.lt_trichotomy i j with z | z | z
    · rw [(p i j hi hj z).1] at hab; cases hab
    · subst z; exact hne rfl
    · rw [(p j i hj hi z).2] at hab; cases hab
  constructor
  · intro hx
    refine ⟨i1 x hx, fun y hy hyx => ?_⟩
    obtain ⟨m, hm, hmy⟩ := i2 y hy
    have e := anti m hm x hx (within_trans hmy hyx)
    subst e
    exact within_anti (h.lot y hy) (h.lot m (i1 m hm)) hyx hmy
  · rintro ⟨hx, hmin⟩
    obtain ⟨m, hm, hmx⟩ := i2 x hx
    have := hmin m (i1 m hm) hmx
    exact this ▸ hm
theorem leastOf_within {n : Nat} {lots : List (List Nat)} (h : Lots n lots) {l : List Nat} (hl : l ∈ lots) : ∃ m ∈ leastOf lots, within m l = true := by
  obtain ⟨m, hm, h2⟩ := h.go.2.1 l hl
  exact ⟨m, mem_sortG.mpr hm, h2⟩
theorem leastOf_sorted (lots : List (List Nat)) : (leastOf lots).Pairwise fun a b => leL a b = true := sortG_sorted leL_total leL_trans _
theorem leastOf_nodup {n : Nat} {lots : List (List Nat)} (h : Lots n lots) : (leastOf lots).Nodup := by
  refine (sortG_perm leL _).nodup_iff.mpr (List.Pairwise.imp (fun h e => ?_) h.go.2.2)
  subst e
  rw [within_refl] at h
  cases h.1
theorem leastOf_ext {n m : Nat} {l k : List (List Nat)} (h : Lots n l) (h2 : Lots m k) (e : ∀ x, x ∈ leastOf l ↔ x ∈ leastOf k) : leastOf l = leastOf k :=
  sorted_ext leL_antisymm (leastOf_sorted l) (leastOf_sorted k) (leastOf_nodup h) (leastOf_nodup h2) e
/-! ### meeting -/
theorem meetsB_iff {l : List Nat} {H : List (List Nat)} : meetsB l H = true ↔ ∀ h ∈ H, ∃ x ∈ h, x ∈ l := by simp [meetsB]
theorem meetsB_mono {l m : List Nat} {H : List (List Nat)} (h : within l m = true) (h2 : meetsB l H = true) : meetsB m H = true :=
  meetsB_iff.mpr fun o ho => let ⟨x, hx, hl⟩ := meetsB_iff.mp h2 o ho; ⟨x, hx, within_iff.mp h x hl⟩
def meeting (n : Nat) (H : List (List Nat)) : List (List Nat) := leastOf ((allLots n).filter fun l => meetsB l H)
theorem mem_meeting {n : Nat} {H : List (List Nat)} {x : List Nat} : x ∈ meeting n H ↔ (IsLot n x ∧ meetsB x H = true) ∧ ∀ y, IsLot n y → meetsB y H = true → within y x = true → y = x := by
  unfold meeting
  rw [mem_leastOf ((lots_all n).filter _), List.mem_filter, mem_allLots]
  constructor
  · rintro ⟨h1, h2⟩
    exact ⟨h1, fun y hy hm hw => h2 y (List.mem_filter.mpr ⟨mem_allLots.mpr hy, hm⟩) hw⟩
  · rintro ⟨h1, h2⟩
    exact ⟨h1, fun y hy hw => h2 y (mem_allLots.mp (List.mem_filter.mp hy).1) (List.mem_filter.mp hy).2 hw⟩
theorem meeting_within {n : Nat} {H : List (List Nat)} {l : List Nat} (hl : IsLot n l) (hm : meetsB l H = true) : ∃ t ∈ meeting n H, within t l = true :=
  leastOf_within ((lots_all n).filter _) (List.mem_filter.mpr ⟨mem_allLots.mpr hl, hm⟩)
theorem meets_has {n : Nat} {H : List (List Nat)} {l : List Nat} (hl : IsLot n l) : meetsB l H = true ↔ ∃ t ∈ meeting n H, within t l = true := by
  constructor
  · exact meeting_within hl
  · rintro ⟨t, ht, hw⟩
    exact meetsB_mono hw (mem_meeting.mp ht).1.2
def others (n : Nat) (l : List Nat) : List Nat := lotOf n fun x => !decide (x ∈ l)
theorem mem_others {n x : Nat} {l : List Nat} : x ∈ others n l ↔ x < n ∧ x ∉ l := by
  unfold others
  rw [mem_lotOf, Bool.not_eq_true', decide_eq_false_iff_not]
theorem others_lot (n : Nat) (l : List Nat) : IsLot n (others n l) := isLot_lotOf _ _
/-- the least that meet the least that meet are these themselves -/
theorem mem_twice {n : Nat} {H : List (List Nat)} (hl : ∀ h ∈ H, IsLot n h) (anti : ∀ a ∈ H, ∀ b ∈ H, within a b = true → a = b) {x : List Nat} : x ∈ meeting n (meeting n H) ↔ x ∈ H := by
  -- who meets no lot of H keeps one within
  have key : ∀ y, IsLot n y → meetsB y (meeting n H) = true → ∃ h ∈ H, within h y = true := fun y hy hm => by
    refine Classical.byContradiction fun z => ?_
    have hS : meetsB (others n y) H = true := meetsB_iff.mpr fun h hh => by
      refine Classical.byContradiction fun z2 => z ⟨h, hh, within_iff.mpr fun a ha => Classical.byContradiction fun z3 => z2 ⟨a, ha, mem_others.mpr ⟨(hl h hh).lt a ha, z3⟩⟩⟩
    obtain ⟨t, ht, hw⟩ := meeting_within (others_lot n y) hS
    obtain ⟨a, ha, hay⟩ := meetsB_iff.mp hm t ht
    exact (mem_others.mp (within_iff.mp hw a ha)).2 hay
  have meets : ∀ h ∈ H, meetsB h (meeting n H) = true := fun h hh => meetsB_iff.mpr fun t ht => by
    obtain ⟨a, ha, hat⟩ := meetsB_iff.mp (mem_meeting.mp ht).1.2 h hh
    exact ⟨a, hat, ha⟩
  rw [mem_meeting]
  constructor
  · rintro ⟨⟨h1, h2⟩, h3⟩
    obtain ⟨h, hh, hw⟩ := key x h1 h2
    have := h3 h (hl h hh) (meets h hh) hw
    exact this ▸ hh
  · intro hx
    refine ⟨⟨hl x hx, meets x hx⟩, fun y hy hm hw => ?_⟩
    obtain ⟨h, hh, hhy⟩ := key y hy hm
    have e := anti h hh x hx (within_trans hhy hw)
    subst e
    exact within_anti hy (hl h hh) hw hhy
/-! ### forts -/
def cntOut (c : Cr) (l : List Nat) (p : Nat) : Nat := ((nbs c p).filter fun b => !decide (b ∈ l)).length
def keepsOut (c : Cr) (l : List Nat) : Bool := l.all fun p => !decide (need c p ≤ cntOut c l p)
def isFortB (c : Cr) (l : List Nat) : Bool := decide (0 < l.length) && keepsOut c l
def fortsOf (c : Cr) : List (List Nat) := leastOf ((allLots c.n).filter (isFortB c))
def leastIn (c : Cr) : List (List Nat) := meeting c.n (fortsOf c)
theorem cntOut_eq (c : Cr) (l : List Nat) (p : Nat) : cntOut c l p = cnt c (others c.n l) p := by
  unfold cntOut cnt
  congr 1
  refine List.filter_congr fun b hb => ?_
  have hb' := (mem_lotOf.mp hb).1
  by_cases h : b ∈ l <;> simp [h, mem_others, hb']
theorem keepsOut_iff {c : Cr} {l : List Nat} : keepsOut c l = true ↔ ∀ p ∈ l, cnt c (others c.n l) p < need c p := by
  unfold keepsOut
  rw [List.all_eq_true]
  refine forall_congr' fun p => forall_congr' fun _ => ?_
  rw [Bool.not_eq_true', decide_eq_false_iff_not, cntOut_eq, Nat.not_le]
/-- those who never take it up keep it out -/
theorem keeps_tk {c : Cr} {f : List Nat} (hf : IsLot c.n f) : keepsOut c (others c.n (tk c f)) = true := keepsOut_iff.mpr fun p hp => by
  obtain ⟨h1, h2⟩ := mem_others.mp hp
  refine Nat.not_le.mp fun z => h2 ((tk_clo hf.lt).cl p h1 (Nat.le_trans z (Nat.le_of_eq (cnt_congr fun x => ?_))))
  rw [mem_others, mem_others]
  constructor
  · rintro ⟨h3, h4⟩
    exact Classical.byContradiction fun z => h4 ⟨h3, z⟩
  · exact fun h => ⟨(tk_lot c f).lt x h, fun z => z.2 h⟩
/-- a lot that keeps it out, without first ones, never takes it up -/
theorem keeps_free {c : Cr} {f X : List Nat} (hf : IsLot c.n f) (hX : IsLot c.n X) (hk : keepsOut c X = true) (hd : ∀ x ∈ f, x ∉ X) : ∀ x ∈ tk c f, x ∉ X := fun x hx => by
  have : Clo c f (others c.n X) := ⟨fun y hy => mem_others.mpr ⟨hf.lt y hy, hd y hy⟩, fun p hp hn => mem_others.mpr ⟨hp, fun z => Nat.not_le.mpr (keepsOut_iff.mp hk p z) hn⟩⟩
  exact (mem_others.mp (tk_least this x hx)).2
theorem fort_lot {c : Cr} {x : List Nat} (h : x ∈ fortsOf c) : IsLot c.n x ∧ isFortB c x = true := by
  have := ((mem_leastOf ((lots_all c.n).filter _)).mp h).1
  rw [List.mem_filter, mem_allLots] at this
  exact this
theorem fort_anti {c : Cr} : ∀ a ∈ fortsOf c, ∀ b ∈ fortsOf c, within a b = true → a = b := fun a ha b hb h =>
  ((mem_leastOf ((lots_all c.n).filter _)).mp hb).2 a ((mem_leastOf ((lots_all c.n).filter _)).mp ha).1 h
theorem fort_within {c : Cr} {x : List Nat} (h : IsLot c.n x) (hf : isFortB c x = true) : ∃ m ∈ fortsOf c, within m x = true :=
  leastOf_within ((lots_all c.n).filter _) (List.mem_filter.mpr ⟨mem_allLots.mpr h, hf⟩)
theorem len_all {n : Nat} {l : List Nat} (h : IsLot n l) : l.length = n ↔ ∀ x, x < n → x ∈ l := by
  constructor
  · intro e x hx
    refine Classical.byContradiction fun z => ?_
    have : (x :: l).length ≤ n := nodup_le (List.nodup_cons.mpr ⟨z, h.asc.nodup⟩) fun y hy => by
      rcases List.mem_cons.mp hy with rfl | hy
      · exact hx
      · exact h.lt y hy
    simp at this
    omega
  · intro e
    have h1 := h.len
    have h2 : (List.range n).length ≤ l.length := List.Nodup.length_le_of_subset List.nodup_range fun x hx => e x (List.mem_range.mp hx)
    simp at h2
    omega
/-- THE FIRST FACT -/
theorem enough_iff {c : Cr} {f : List Nat} (hf : IsLot c.n f) : (tk c f).length = c.n ↔ meetsB f (fortsOf c) = true := by
  rw [len_all (tk_lot c f), meetsB_iff]
  constructor
  · intro h o ho
    refine Classical.byContradiction fun z => ?_
    obtain ⟨h1, h2⟩ := fort_lot ho
    unfold isFortB at h2
    rw [Bool.and_eq_true, decide_eq_true_eq] at h2
    obtain ⟨x, hx⟩ := List.exists_mem_of_length_pos h2.1
    exact keeps_free hf h1 h2.2 (fun y hy hyo => z ⟨y, hyo, hy⟩) x (h x (h1.lt x hx)) hx
  · intro h
    refine Classical.byContradiction fun z => ?_
    have hne : 0 < (others c.n (tk c f)).length := by
      refine Nat.pos_of_ne_zero fun e => z fun x hx => Classical.byContradiction fun z2 => ?_
      have : x ∈ others c.n (tk c f) := mem_others.mpr ⟨hx, z2⟩
      rw [List.length_eq_zero_iff.mp e] at this
      cases this
    obtain ⟨m, hm, hw⟩ := fort_within (others_lot c.n (tk c f)) (by unfold isFortB; rw [keeps_tk hf, decide_eq_true hne]; rfl)
    obtain ⟨x, hx, hxf⟩ := h m hm
    exact (mem_others.mp (within_iff.mp hw x hx)).2 ((tk_clo hf.lt).sub x hxf)
end Fm

/-! Mc: lots of fewest persons. -/
namespace Fm
def minN : List Nat → Nat
  | [] => 0
  | a :: l => l.foldl min a
theorem foldl_minN : ∀ (l : List Nat) (a : Nat), (l.foldl min a = a ∨ l.foldl min a ∈ l) ∧ l.foldl min a ≤ a ∧ ∀ x ∈ l, l.foldl min a ≤ x
  | [], a => ⟨.inl rfl, Nat.le_refl _, fun x h => by cases h⟩
  | b :: l, a => by
    obtain ⟨h1, h2, h3⟩ := foldl_minN l (min a b)
    simp only [List.foldl_cons]
    refine ⟨?_, by omega, fun x hx => ?_⟩
    · rcases h1 with h1 | h1
      · rw [h1]
        by_cases z : a ≤ b
        · exact .inl (by omega)
        · exact .inr (by rw [Nat.min_eq_right (by omega)]; exact .head _)
      · exact .inr (.tail _ h1)
    · rcases List.mem_cons.mp hx with rfl | hx
      · omega
      · exact h3 x hx
theorem minN_mem {l : List Nat} (h : l ≠ []) : minN l ∈ l := by
  cases l with
  | nil => exact absurd rfl h
  | cons a l =>
    rcases (foldl_minN l a).1 with h | h
    · show l.foldl min a ∈ a :: l
      rw [h]
      exact .head _
    · exact .tail _ h
theorem minN_le {l : List Nat} {x : Nat} (h : x ∈ l) : minN l ≤ x := by
  cases l with
  | nil => cases h
  | cons a l =>
    rcases List.mem_cons.mp h with rfl | h
    · exact (foldl_minN l x).2.1
    · exact (foldl_minN l a).2.2 x h
def goodL (n : Nat) (H : List (List Nat)) : List (List Nat) := (allLots n).filter fun l => meetsB l H
theorem mem_good {n : Nat} {H : List (List Nat)} {l : List Nat} : l ∈ goodL n H ↔ IsLot n l ∧ meetsB l H = true := by
  unfold goodL
  rw [List.mem_filter, mem_allLots]
theorem leastIn_good (c : Cr) : leastIn c = leastOf (goodL c.n (fortsOf c)) := rfl
def allFew (L : List (List Nat)) : List (List Nat) := L.filter fun l => decide (l.length = minN (L.map List.length))
theorem good_ne {n : Nat} {H : List (List Nat)} (hH : ∀ h ∈ H, IsLot n h ∧ h ≠ []) : goodL n H ≠ [] := fun e => by
  have : List.range n ∈ goodL n H := mem_good.mpr ⟨⟨asc_range n, fun x hx => List.mem_range.mp hx⟩, meetsB_iff.mpr fun h hh => by
    obtain ⟨h1, h2⟩ := hH h hh
    obtain ⟨x, hx⟩ := List.exists_mem_of_ne_nil h h2
    exact ⟨x, hx, List.mem_range.mpr (h1.lt x hx)⟩⟩
  rw [e] at this
  cases this
theorem few_eq {n : Nat} {H : List (List Nat)} {g0 : List Nat} {r : List (List Nat)} (hg : goodL n H = g0 :: r) : sortG leL ((goodL n H).filter fun l => decide (l.length = g0.length)) = allFew (meeting n H) ∧ minN ((meeting n H).map List.length) = g0.length := by
  have hs : (goodL n H).Pairwise leS := (allLots_sorted n).filter _
  have h0 : g0 ∈ goodL n H := by rw [hg]; exact .head _
  have hmin : ∀ l ∈ goodL n H, g0.length ≤ l.length := fun l hl => by
    rw [hg] at hl hs
    rcases List.mem_cons.mp hl with rfl | hl
    · exact Nat.le_refl _
    · rcases (List.pairwise_cons.mp hs).1 l hl with h | h
      · omega
      · omega
  obtain ⟨t, ht, htw⟩ := meeting_within (mem_good.mp h0).1 (mem_good.mp h0).2
  have tg : t ∈ goodL n H := mem_good.mpr (mem_meeting.mp ht).1
  have htl : t.length = g0.length := Nat.le_antisymm (within_len (mem_good.mp tg).1 htw) (hmin t tg)
  have hne : (meeting n H).map List.length ≠ [] := fun e => by
    have : t.length ∈ (meeting n H).map List.length := List.mem_map.mpr ⟨t, ht, rfl⟩
    rw [e] at this
    cases this
  have hm : minN ((meeting n H).map List.length) = g0.length := by
    refine Nat.le_antisymm (htl ▸ minN_le (List.mem_map.mpr ⟨t, ht, rfl⟩)) ?_
    obtain ⟨x, hx, e⟩ := List.mem_map.mp (minN_mem hne)
    rw [← e]
    exact hmin x (mem_good.mpr (mem_meeting.mp hx).1)
  refine ⟨?_, hm⟩
  refine sorted_ext leL_antisymm (sortG_sorted leL_total leL_trans _) ((leastOf_sorted _).filter _) ((sortG_perm leL _).nodup_iff.mpr (((allLots_nodup n).filter _).filter _)) ((leastOf_nodup ((lots_all n).filter _)).filter _) fun x => ?_
  unfold allFew
  rw [mem_sortG, List.mem_filter, List.mem_filter, hm, decide_eq_true_eq]
  constructor
  · rintro ⟨h1, h2⟩
    refine ⟨mem_meeting.mpr ⟨mem_good.mp h1, fun y hy hym hyx => within_eq hy (mem_good.mp h1).1 hyx ?_⟩, h2⟩
    have := hmin y (mem_good.mpr ⟨hy, hym⟩)
    omega
  · rintro ⟨h1, h2⟩
    exact ⟨mem_good.mpr (mem_meeting.mp h1).1, h2⟩
end Fm

/-! Fp1: the evaluator by simp. -/
namespace Fm
open PySem PySem.Spec PyProof.Rows L2
/-! ### the tree -/
@[simp] theorem ret_bind {α β : Type} (a : α) (f : α → T β) : (T.ret a >>= f) = f a := (rfl)
@[simp] theorem bad_bind {α β : Type} (f : α → T β) : ((T.bad : T α) >>= f) = T.bad := (rfl)
@[simp] theorem ite_bind {α β : Type} (c : Prop) [Decidable c] (a b : T α) (f : α → T β) : ((if c then a else b) >>= f) = if c then a >>= f else b >>= f := by split <;> rfl
@[simp] theorem draw_bind {α β : Type} (n : Nat) (k : Nat → T α) (f : α → T β) : (T.draw n k >>= f) = T.draw n fun i => k i >>= f := (rfl)
@[simp] theorem bind_assoc' {α β γ : Type} (t : T α) (f : α → T β) (g : β → T γ) : ((t >>= f) >>= g) = (t >>= fun a => f a >>= g) := T.bind_assoc t f g
/-- at every end q, not to be unfolded -/
structure Wp {α : Type} (t : T α) (q : α → Prop) : Prop where
  w : t.wp q
@[simp] theorem wp_ret' {α : Type} (a : α) (q : α → Prop) : Wp (T.ret a) q ↔ q a := ⟨fun h => h.w, fun h => ⟨h⟩⟩
@[simp] theorem wp_draw {α : Type} (n : Nat) (k : Nat → T α) (q : α → Prop) : Wp (T.draw n k) q ↔ ∀ i, i < n → Wp (k i) q := ⟨fun h i hi => ⟨h.w i hi⟩, fun h => ⟨fun i hi => (h i hi).w⟩⟩
theorem wp_bindI {α β : Type} {t : T α} {f : α → T β} {q : β → Prop} (h : Wp t fun a => Wp (f a) q) : Wp (t >>= f) q := ⟨T.wp_bind.mpr (T.wp_imp h.w fun _ h => h.w)⟩
theorem Wp.imp {α : Type} {t : T α} {p q : α → Prop} (h : Wp t p) (i : ∀ a, p a → q a) : Wp t q := ⟨T.wp_imp h.w i⟩
theorem Wp.of_eq {α : Type} {t : T α} {a : α} {q : α → Prop} (h : t = .ret a) (hq : q a) : Wp t q := by subst h; exact ⟨hq⟩
@[simp] theorem ite_bl (c : Prop) [Decidable c] (x y : Bool) : (if c then (T.ret (D.bl x) : T D) else T.ret (D.bl y)) = T.ret (D.bl (if c then x else y)) := by split <;> rfl
@[simp] theorem ite_opt (c : Prop) [Decidable c] (x y : Option D) : (if c then (T.ret x : T (Option D)) else T.ret y) = T.ret (if c then x else y) := by split <;> rfl
/-! ### values -/
def tieD (t : Nat × Nat) : D := .tup [.int t.1, .int t.2]
def lotD (l : List Nat) : D := .tup (l.map natD)
def crD (c : Cr) : D := .crowd c.n c.ts c.ns
def partsD (c : Cr) : D := .tup [.int c.n, .tup (c.ts.map tieD), .tup (c.ns.map natD)]
@[simp] theorem natD_eq (x : Nat) : natD x = .int (x : Nat) := (rfl)
@[simp] theorem tieD_eq (t : Nat × Nat) : tieD t = .tup [.int t.1, .int t.2] := (rfl)
@[simp] theorem lotD_eq (l : List Nat) : lotD l = .tup (l.map natD) := (rfl)
theorem tiesD_eq (ts : List (Nat × Nat)) : tiesD ts = .tup (ts.map tieD) := rfl
theorem needsD_eq (ns : List Nat) : needsD ns = .tup (ns.map natD) := rfl
@[simp] theorem its_tup (xs : List D) : D.its (.tup xs) = some xs := (rfl)
@[simp] theorem its_lst (xs : List D) : D.its (.lst xs) = some xs := (rfl)
@[simp] theorem its_cell (xs : List D) : D.its (.cell xs) = some xs := (rfl)
@[simp] theorem asL_lst (xs : List D) : D.asL (.lst xs) = some xs := (rfl)
@[simp] theorem asL_cell (xs : List D) : D.asL (.cell xs) = some xs := (rfl)
@[simp] theorem asL_tup (xs : List D) : D.asL (.tup xs) = none := (rfl)
@[simp] theorem itsT_tup (xs : List D) : itsT (.tup xs) = .ret xs := (rfl)
@[simp] theorem itsT_lst (xs : List D) : itsT (.lst xs) = .ret xs := (rfl)
@[simp] theorem itsT_cell (xs : List D) : itsT (.cell xs) = .ret xs := (rfl)
@[simp] theorem isCell_int (i : Int) : D.isCell (.int i) = false := (rfl)
@[simp] theorem isCell_bl (i : Bool) : D.isCell (.bl i) = false := (rfl)
@[simp] theorem isCell_str (i : Str) : D.isCell (.str i) = false := (rfl)
@[simp] theorem isCell_non : D.isCell .non = false := (rfl)
@[simp] theorem isCell_tup (xs : List D) : D.isCell (.tup xs) = false := (rfl)
@[simp] theorem isCell_lst (xs : List D) : D.isCell (.lst xs) = false := (rfl)
@[simp] theorem isCell_cell (xs : List D) : D.isCell (.cell xs) = true := (rfl)
@[simp] theorem isCell_hand : D.isCell .hand = false := (rfl)
@[simp] theorem isCell_scr (ns : List Int) : D.isCell (.scr ns) = false := (rfl)
@[simp] theorem isCell_crowd (n : Nat) (ts : List (Nat × Nat)) (ns : List Nat) : D.isCell (.crowd n ts ns) = false := (rfl)
@[simp] theorem unc_int (i : Int) : D.unc (.int i) = .int i := (rfl)
@[simp] theorem unc_bl (i : Bool) : D.unc (.bl i) = .bl i := (rfl)
@[simp] theorem unc_str (i : Str) : D.unc (.str i) = .str i := (rfl)
@[simp] theorem unc_non : D.unc .non = .non := (rfl)
@[simp] theorem unc_tup (xs : List D) : D.unc (.tup xs) = .tup xs := (rfl)
@[simp] theorem unc_lst (xs : List D) : D.unc (.lst xs) = .lst xs := (rfl)
@[simp] theorem unc_cell (xs : List D) : D.unc (.cell xs) = .lst xs := (rfl)
@[simp] theorem unc_hand : D.unc .hand = .hand := (rfl)
@[simp] theorem unc_scr (ns : List Int) : D.unc (.scr ns) = .scr ns := (rfl)
@[simp] theorem unc_crowd (n : Nat) (ts : List (Nat × Nat)) (ns : List Nat) : D.unc (.crowd n ts ns) = .crowd n ts ns := (rfl)
@[simp] theorem chkC_int' (i : Int) : chkC (.int i) = .ret (.int i) := (rfl)
@[simp] theorem chkC_bl (i : Bool) : chkC (.bl i) = .ret (.bl i) := (rfl)
@[simp] theorem chkC_str (i : Str) : chkC (.str i) = .ret (.str i) := (rfl)
@[simp] theorem chkC_non : chkC .non = .ret .non := (rfl)
@[simp] theorem chkC_tup (xs : List D) : chkC (.tup xs) = .ret (.tup xs) := (rfl)
@[simp] theorem chkC_lst (xs : List D) : chkC (.lst xs) = .ret (.lst xs) := (rfl)
@[simp] theorem chkC_hand : chkC .hand = .ret .hand := (rfl)
@[simp] theorem chkC_crowd (n : Nat) (ts : List (Nat × Nat)) (ns : List Nat) : chkC (.crowd n ts ns) = .ret (.crowd n ts ns) := (rfl)
@[simp] theorem asB_bl' (b : Bool) : asB (.bl b) = .ret b := (rfl)
@[simp] theorem flat_int (i : Int) : D.flat (.int i) = true := (rfl)
@[simp] theorem flat_bl (i : Bool) : D.flat (.bl i) = true := (rfl)
@[simp] theorem flat_non : D.flat .non = true := (rfl)
@[simp] theorem flat_tup' (xs : List D) : D.flat (.tup xs) = xs.all D.flat := flat_tup xs
@[simp] theorem isCell_cr (c : Cr) : D.isCell (crD c) = false := (rfl)
@[simp] theorem unc_cr (c : Cr) : D.unc (crD c) = crD c := (rfl)
@[simp] theorem chkC_cr (c : Cr) : chkC (crD c) = .ret (crD c) := (rfl)
@[simp] theorem flat_cr (c : Cr) : D.flat (crD c) = true := (rfl)
@[simp] theorem at_persons (c : Cr) : attrD (crD c) "persons" = .ret (.int c.n) := (rfl)
@[simp] theorem at_ties (c : Cr) : attrD (crD c) "ties" = .ret (.tup (c.ts.map tieD)) := (rfl)
@[simp] theorem at_needs (c : Cr) : attrD (crD c) "needs" = .ret (.tup (c.ns.map natD)) := (rfl)
@[simp] theorem own_cr (e : E) (c : Cr) : own e (crD c) = .ret (crD c) := by unfold own crD; split <;> rfl
@[simp] theorem isCell_parts (c : Cr) : D.isCell (partsD c) = false := rfl
@[simp] theorem unc_parts (c : Cr) : D.unc (partsD c) = partsD c := (rfl)
@[simp] theorem chkC_parts (c : Cr) : chkC (partsD c) = .ret (partsD c) := (rfl)
@[simp] theorem own_parts (e : E) (c : Cr) : own e (partsD c) = .ret (partsD c) := by unfold own partsD; split <;> rfl
@[simp] theorem isNon_cr (c : Cr) : isNon (crD c) = false := (rfl)
/-! values by a code -/
class NoC {α : Type} (f : α → D) : Prop where
  nc : ∀ a, (f a).isCell = false
instance : NoC natD := ⟨fun _ => rfl⟩
instance : NoC tieD := ⟨fun _ => rfl⟩
instance : NoC lotD := ⟨fun _ => rfl⟩
instance {α : Type} (g : α → List D) : NoC (fun a => D.tup (g a)) := ⟨fun _ => rfl⟩
instance {α : Type} (g : α → Int) : NoC (fun a => D.int (g a)) := ⟨fun _ => rfl⟩
instance {α : Type} (g : α → Bool) : NoC (fun a => D.bl (g a)) := ⟨fun _ => rfl⟩
instance {α : Type} (g : α → List D) : NoC (fun a => D.lst (g a)) := ⟨fun _ => rfl⟩
@[simp] theorem any_noC {α : Type} (f : α → D) [h : NoC f] (l : List α) : (l.map f).any D.isCell = false := by
  rw [List.any_eq_false]
  intro x hx
  obtain ⟨a, _, rfl⟩ := List.mem_map.mp hx
  rw [h.nc]
  decide
class Flt {α : Type} (f : α → D) : Prop where
  fl : ∀ a, (f a).flat = true
instance : Flt natD := ⟨fun _ => rfl⟩
instance : Flt tieD := ⟨fun _ => rfl⟩
@[simp] theorem all_flat {α : Type} (f : α → D) [h : Flt f] (l : List α) : (l.map f).all D.flat = true := by
  rw [List.all_eq_true]
  intro x hx
  obtain ⟨a, _, rfl⟩ := List.mem_map.mp hx
  exact h.fl a
instance : Flt lotD := ⟨fun l => by rw [lotD_eq, flat_tup', all_flat]⟩
/-- a code by which equal is equal -/
class Cod {α : Type} [DecidableEq α] (f : α → D) (k : outParam Nat) : Prop where
  eq : ∀ a b, PyData.eqv (f a).toP (f b).toP = decide (a = b)
  lay : ∀ a, (f a).toP.canLay0 = true
  dep : ∀ a, (f a).toP.depth ≤ k
instance : Cod natD 0 := ⟨fun a b => by
  show ((a : Int) == (b : Int)) = _
  by_cases h : a = b
  · subst h; simp
  · rw [decide_eq_false h, beq_eq_false_iff_ne]
    omega, fun _ => rfl, fun _ => Nat.le_refl _⟩
theorem canLayAll_iff : ∀ xs : List PyData, PyData.canLayAll0 xs = xs.all PyData.canLay0
  | [] => rfl
  | x :: xs => by show (x.canLay0 && PyData.canLayAll0 xs) = _; rw [canLayAll_iff xs]; rfl
theorem depthAll_le : ∀ (xs : List PyData) (k : Nat), (∀ x ∈ xs, x.depth ≤ k) → PyData.depthAll xs ≤ k
  | [], _, _ => Nat.zero_le _
  | x :: xs, k, h => Nat.max_le.mpr ⟨h x (.head _), depthAll_le xs k fun y hy => h y (.tail _ hy)⟩
section
variable {α β : Type} [DecidableEq α] [DecidableEq β] {k k2 : Nat}
theorem eqvAll_map (f : α → D) [c : Cod f k] : ∀ l m : List α, PyData.eqvAll ((l.map f).map D.toP) ((m.map f).map D.toP) = decide (l = m)
  | [], [] => rfl
  | [], b :: m => rfl
  | a :: l, [] => rfl
  | a :: l, b :: m => by
    show (PyData.eqv (f a).toP (f b).toP && PyData.eqvAll ((l.map f).map D.toP) ((m.map f).map D.toP)) = _
    rw [c.eq, eqvAll_map f l m]
    by_cases h : a = b <;> by_cases h2 : l = m <;> simp [h, h2]
theorem eqv_tup (f : α → D) [c : Cod f k] (l m : List α) : PyData.eqv (D.tup (l.map f)).toP (D.tup (m.map f)).toP = decide (l = m) := by
  rw [toP_tup, toP_tup]
  exact eqvAll_map f l m
theorem eqv_lst (f : α → D) [c : Cod f k] (l m : List α) : PyData.eqv (D.lst (l.map f)).toP (D.lst (m.map f)).toP = decide (l = m) := by
  rw [toP_lst, toP_lst]
  exact eqvAll_map f l m
theorem lay_map (f : α → D) [c : Cod f k] (l : List α) : PyData.canLayAll0 ((l.map f).map D.toP) = true := by
  rw [canLayAll_iff, List.all_eq_true]
  intro x hx
  obtain ⟨d, hd, rfl⟩ := List.mem_map.mp hx
  obtain ⟨a, _, rfl⟩ := List.mem_map.mp hd
  exact c.lay a
theorem dep_map (f : α → D) [c : Cod f k] (l : List α) : PyData.depthAll ((l.map f).map D.toP) ≤ k :=
  depthAll_le _ _ fun x hx => by
    obtain ⟨d, hd, rfl⟩ := List.mem_map.mp hx
    obtain ⟨a, _, rfl⟩ := List.mem_map.mp hd
    exact c.dep a
instance codTup (f : α → D) [c : Cod f k] : Cod (fun l : List α => D.tup (l.map f)) (k + 1) :=
  ⟨eqv_tup f, fun l => by rw [toP_tup]; exact lay_map f l, fun l => by rw [toP_tup]; exact Nat.succ_le_succ (dep_map f l)⟩
instance : Cod lotD 1 := codTup natD
instance : Cod tieD 1 := ⟨fun a b => by
  show ((a.1 : Int) == (b.1 : Int) && ((a.2 : Int) == (b.2 : Int) && true)) = _
  obtain ⟨a1, a2⟩ := a
  obtain ⟨b1, b2⟩ := b
  by_cases h : a1 = b1 <;> by_cases h2 : a2 = b2 <;> simp [h, h2] <;> omega, fun _ => rfl, fun _ => Nat.le_refl _⟩
theorem shaped_cod (f : α → D) [c : Cod f k] (a : α) (hk : k ≤ 64) : SeqAt.shaped (f a).toP = true := by
  unfold SeqAt.shaped
  rw [c.lay, Bool.true_and]
  exact decide_eq_true (Nat.le_trans (c.dep a) hk)
theorem shaped_cods (f : α → D) [c : Cod f k] (l : List α) (hk : k ≤ 63) : SeqAt.shaped (.list ((l.map f).map D.toP)) = true := by
  unfold SeqAt.shaped
  rw [show PyData.canLay0 (.list ((l.map f).map D.toP)) = true from lay_map f l, Bool.true_and]
  exact decide_eq_true (Nat.le_trans (Nat.succ_le_succ (dep_map f l)) (by omega))
theorem eqD_cod (f : α → D) [c : Cod f k] (a b : α) (hk : k ≤ 64) : eqD (f a) (f b) = .ret (decide (a = b)) := by
  unfold eqD
  rw [shaped_cod f a hk, shaped_cod f b hk, c.eq]
  rfl
theorem inD_cod (f : α → D) [c : Cod f k] (a : α) (l : List α) (hk : k ≤ 63) : inD (f a) (l.map f) = .ret (decide (a ∈ l)) := by
  unfold inD
  rw [shaped_cod f a (by omega), shaped_cods f l hk]
  show T.ret _ = T.ret _
  congr 1
  rw [List.any_map, Bool.eq_iff_iff, List.any_eq_true, decide_eq_true_eq]
  constructor
  · rintro ⟨x, hx, h⟩
    rw [Function.comp_apply, c.eq, decide_eq_true_eq] at h
    exact h ▸ hx
  · exact fun h => ⟨a, h, by rw [Function.comp_apply, c.eq, decide_eq_true_eq]⟩
end
@[simp] theorem inD_nat (a : Nat) (l : List Nat) : inD (.int (a : Nat)) (l.map natD) = .ret (decide (a ∈ l)) := inD_cod natD a l (by decide)
@[simp] theorem inD_tie (a b : Nat) (l : List (Nat × Nat)) : inD (.tup [.int (a : Nat), .int (b : Nat)]) (l.map tieD) = .ret (decide ((a, b) ∈ l)) := (inD_cod tieD (a, b) l (by decide)).trans (congrArg T.ret (decide_eq_decide.mpr Iff.rfl))
@[simp] theorem inD_lot (a : List Nat) (l : List (List Nat)) : inD (.tup (a.map natD)) (l.map lotD) = .ret (decide (a ∈ l)) := (inD_cod lotD a l (by decide)).trans (congrArg T.ret (decide_eq_decide.mpr Iff.rfl))
@[simp] theorem eqD_nat (a b : Nat) : eqD (.int (a : Nat)) (.int (b : Nat)) = .ret (decide (a = b)) := eqD_cod natD a b (by decide)
theorem eqD_ints (a b : Int) : eqD (.int a) (.int b) = .ret (decide (a = b)) := eqD_int a b
@[simp] theorem eqD_lot (a b : List Nat) : eqD (.tup (a.map natD)) (.tup (b.map natD)) = .ret (decide (a = b)) := eqD_cod lotD a b (by decide)
@[simp] theorem eqD_tie (a b c d : Nat) : eqD (.tup [.int (a : Nat), .int (b : Nat)]) (.tup [.int (c : Nat), .int (d : Nat)]) = .ret (decide ((a, b) = (c, d))) := eqD_cod tieD (a, b) (c, d) (by decide)
@[simp] theorem eqD_lots (a b : List (List Nat)) : eqD (.tup (a.map lotD)) (.tup (b.map lotD)) = .ret (decide (a = b)) := (codTup lotD).eq a b ▸ (eqD_cod (fun l : List (List Nat) => D.tup (l.map lotD)) a b (by decide)).trans (by rw [(codTup lotD).eq])
theorem eqD_of {a b : D} (h1 : SeqAt.shaped a.toP = true) (h2 : SeqAt.shaped b.toP = true) : eqD a b = .ret (PyData.eqv a.toP b.toP) := by
  unfold eqD
  rw [h1, h2]
  rfl
@[simp] theorem eqD_bl (a b : Bool) : eqD (.bl a) (.bl b) = .ret (a == b) := (rfl)
theorem eqD_non {b : D} (h : SeqAt.shaped b.toP = true) (n : b.toP ≠ .none) : eqD .non b = .ret false := by
  rw [eqD_of rfl h]
  congr 1
  show PyData.eqv .none b.toP = false
  cases e : b.toP <;> first | rfl | exact absurd e n
@[simp] theorem eqD_non_int (i : Int) : eqD .non (.int i) = .ret false := (rfl)
@[simp] theorem eqD_int_non (i : Int) : eqD (.int i) .non = .ret false := (rfl)
@[simp] theorem eqD_non_non : eqD .non .non = .ret true := (rfl)
@[simp] theorem eqD_non_tup {α : Type} [DecidableEq α] {k : Nat} (f : α → D) [c : Cod f k] (l : List α) (hk : k ≤ 63) : eqD .non (.tup (l.map f)) = .ret false := eqD_non (shaped_cod (fun l : List α => D.tup (l.map f)) l (by omega)) (by rw [toP_tup]; exact fun e => by cases e)
end Fm

/-! Fp2: expressions and statements by simp. -/
namespace Fm
open PySem PySem.Spec PyProof.Rows L2
section
variable {F : Fns} {env : Env}
@[simp] theorem getv_zero (d : D) (env : Env) : getv (some d :: env) 0 = .ret d := (rfl)
@[simp] theorem getv_succ (x : Option D) (env : Env) (i : Nat) : getv (x :: env) (i + 1) = getv env i := (rfl)
@[simp] theorem ev_var (i : Nat) : ev F (.var i) env = getv env i := (rfl)
@[simp] theorem ev_non : ev F .non env = .ret .non := (rfl)
@[simp] theorem ev_bl (b : Bool) : ev F (.bl b) env = .ret (.bl b) := (rfl)
@[simp] theorem ev_int (i : Int) : ev F (.int i) env = .ret (.int i) := (rfl)
@[simp] theorem ev_gint (x : String) (i : Int) : ev F (.gint x i) env = .ret (.int i) := (rfl)
@[simp] theorem ev_str (s : String) : ev F (.str s) env = .ret (.str (Str.ofString s)) := (rfl)
@[simp] theorem ev_tup (as : E) : ev F (.tup as) env = (evs F as env >>= mkTup) := (rfl)
@[simp] theorem ev_lst (as : E) : ev F (.lst as) env = (evs F as env >>= mkLst) := (rfl)
@[simp] theorem ev_op' (o : O2) (a b : E) : ev F (.op o a b) env = (ev F a env >>= fun x => ev F b env >>= fun y => op2 o x y) := (rfl)
@[simp] theorem ev_chain (o1 o2 : O2) (a b c : E) : ev F (.chain o1 o2 a b c) env = (ev F a env >>= fun x => ev F b env >>= fun y => op2 o1 x y >>= fun z => asB z >>= fun k => if k = true then (ev F c env >>= fun w => op2 o2 y w) else .ret (.bl false)) := (rfl)
@[simp] theorem ev_rev (a : E) : ev F (.rev a) env = (ev F a env >>= revD) := (rfl)
@[simp] theorem revD_tup (xs : List D) : revD (.tup xs) = .ret (.tup xs.reverse) := (rfl)
@[simp] theorem revD_lst (xs : List D) : revD (.lst xs) = .ret (.lst xs.reverse) := (rfl)
@[simp] theorem revD_cell (xs : List D) : revD (.cell xs) = .ret (.lst xs.reverse) := (rfl)
@[simp] theorem ev_nt' (a : E) : ev F (.nt a) env = (ev F a env >>= fun x => asB x >>= fun b => T.ret (D.bl (!b))) := (rfl)
@[simp] theorem ev_and' (a b : E) : ev F (.and a b) env = (ev F a env >>= fun x => asB x >>= fun k => if k = true then ev F b env else .ret (.bl false)) := (rfl)
@[simp] theorem ev_or' (a b : E) : ev F (.or a b) env = (ev F a env >>= fun x => asB x >>= fun k => if k = true then .ret (.bl true) else ev F b env) := (rfl)
@[simp] theorem ev_ite (c a b : E) : ev F (.ite c a b) env = (ev F c env >>= fun x => asB x >>= fun k => if k = true then ev F a env else ev F b env) := (rfl)
def callR (F : Fns) (f : String) (ds : List D) : T D := F f (ds.map D.unc) >>= fun r => resT (ds.any D.isCell) r
@[simp] theorem ev_call' (f : String) (as : E) : ev F (.call f as) env = (evs F as env >>= callR F f) := (rfl)
@[simp] theorem callR_cons (f : String) (ds : List D) : callR F f ds = (F f (ds.map D.unc) >>= fun r => resT (ds.any D.isCell) r) := (rfl)
@[simp] theorem resT_cell (c : Bool) (xs : List D) : resT c (.cell xs) = if (c && !(xs.all D.flat)) = true then .bad else .ret (.lst xs) := (rfl)
@[simp] theorem resT_lst (c : Bool) (xs : List D) : resT c (.lst xs) = if c = true then .bad else .ret (.lst xs) := by
  show (if (c && !false) = true then T.bad else T.ret (D.lst xs)) = _
  rw [Bool.not_false, Bool.and_true]
@[simp] theorem resT_tup (c : Bool) (xs : List D) : resT c (.tup xs) = if (c && !(xs.all D.flat)) = true then .bad else .ret (.tup xs) := by
  show (if (c && !(D.flat (.tup xs))) = true then T.bad else T.ret (D.tup xs)) = _
  rw [flat_tup]
@[simp] theorem resT_int (c : Bool) (i : Int) : resT c (.int i) = .ret (.int i) := by cases c <;> rfl
@[simp] theorem resT_bl (c : Bool) (i : Bool) : resT c (.bl i) = .ret (.bl i) := by cases c <;> rfl
@[simp] theorem resT_str (c : Bool) (i : Str) : resT c (.str i) = .ret (.str i) := by cases c <;> rfl
@[simp] theorem resT_non (c : Bool) : resT c .non = .ret .non := by cases c <;> rfl
@[simp] theorem resT_cr (c : Bool) (x : Cr) : resT c (crD x) = .ret (crD x) := by cases c <;> rfl
@[simp] theorem resT_hand (c : Bool) : resT c .hand = if c = true then .bad else .ret .hand := by cases c <;> rfl
@[simp] theorem resT_parts (c : Bool) (x : Cr) : resT c (partsD x) = .ret (partsD x) := by
  unfold partsD
  rw [resT_tup]
  simp
@[simp] theorem retT_var (i : Nat) (d : D) : retT (.var i) d = .ret d := (rfl)
@[simp] theorem retT_ix (a i : E) (d : D) : retT (.ix a i) d = .ret d := (rfl)
@[simp] theorem retT_call (f : String) (a : E) (d : D) : retT (.call f a) d = .ret d := (rfl)
@[simp] theorem retT_ite (a b c : E) (d : D) : retT (.ite a b c) d = .ret d := (rfl)
@[simp] theorem retT_and (a b : E) (d : D) : retT (.and a b) d = .ret d := (rfl)
@[simp] theorem retT_or (a b : E) (d : D) : retT (.or a b) d = .ret d := (rfl)
@[simp] theorem fresh_lst (a : E) : E.fresh (.lst a) = true := (rfl)
@[simp] theorem fresh_lc (tg : Tg) (o : List Nat) (a b c : E) : E.fresh (.lc tg o a b c) = true := (rfl)
@[simp] theorem fresh_list (a : E) : E.fresh (.blt .list a) = true := (rfl)
@[simp] theorem fresh_sorted (a : E) : E.fresh (.blt .sorted a) = true := (rfl)
@[simp] theorem fresh_add (a b : E) : E.fresh (.op .add a b) = true := (rfl)
@[simp] theorem fresh_var (i : Nat) : E.fresh (.var i) = false := (rfl)
@[simp] theorem fresh_call (f : String) (a : E) : E.fresh (.call f a) = false := (rfl)
@[simp] theorem fresh_ix (a i : E) : E.fresh (.ix a i) = false := (rfl)
@[simp] theorem fresh_ite (a b c : E) : E.fresh (.ite a b c) = false := (rfl)
@[simp] theorem retT_lst (e : E) (xs : List D) : retT e (.lst xs) = if e.fresh = true then .ret (.cell xs) else .ret (.lst xs) := (rfl)
@[simp] theorem retT_cell (e : E) (xs : List D) : retT e (.cell xs) = if e.fresh = true then .bad else .ret (.cell xs) := (rfl)
@[simp] theorem retT_tup (e : E) (xs : List D) : retT e (.tup xs) = .ret (.tup xs) := by unfold retT; split <;> rfl
@[simp] theorem retT_int (e : E) (i : Int) : retT e (.int i) = .ret (.int i) := by unfold retT; split <;> rfl
@[simp] theorem retT_bl (e : E) (i : Bool) : retT e (.bl i) = .ret (.bl i) := by unfold retT; split <;> rfl
@[simp] theorem retT_str (e : E) (i : Str) : retT e (.str i) = .ret (.str i) := by unfold retT; split <;> rfl
@[simp] theorem retT_non (e : E) : retT e .non = .ret .non := by unfold retT; split <;> rfl
@[simp] theorem retT_hand (e : E) : retT e .hand = .ret .hand := by unfold retT; split <;> rfl
@[simp] theorem retT_cr (e : E) (c : Cr) : retT e (crD c) = .ret (crD c) := by unfold retT crD; split <;> rfl
@[simp] theorem retT_parts (e : E) (c : Cr) : retT e (partsD c) = .ret (partsD c) := by unfold retT partsD; split <;> rfl
@[simp] theorem ev_blt (f : Bi) (as : E) : ev F (.blt f as) env = (evs F as env >>= bltin f) := (rfl)
@[simp] theorem ev_isi (a : E) (k : Ki) : ev F (.isi a k) env = (ev F a env >>= isiD k) := (rfl)
@[simp] theorem ev_attr (a : E) (f : String) : ev F (.attr a f) env = (ev F a env >>= fun x => attrD x f) := (rfl)
@[simp] theorem ev_ix (a i : E) : ev F (.ix a i) env = (ev F a env >>= fun x => ev F i env >>= fun y => ixD x y) := (rfl)
@[simp] theorem ev_sl (a lo hi : E) : ev F (.sl a lo hi) env = (ev F a env >>= fun x => (if isNil lo then .ret none else ev F lo env >>= boundD) >>= fun l => (if isNil hi then .ret none else ev F hi env >>= boundD) >>= fun h => slD x l h) := (rfl)
@[simp] theorem ev_emp : ev F .emp env = .ret .emp := (rfl)
@[simp] theorem ev_rng1 (a : E) : ev F (.rng1 a) env = (ev F a env >>= rng1D) := (rfl)
@[simp] theorem ev_rng2 (a b : E) : ev F (.rng2 a b) env = (ev F a env >>= fun x => ev F b env >>= fun y => rng2D x y) := (rfl)
@[simp] theorem ev_zip (a b : E) : ev F (.zip a b) env = (ev F a env >>= fun x => ev F b env >>= fun y => zipD x y >>= fun r => .ret (.lst r)) := (rfl)
@[simp] theorem ev_enum (a : E) : ev F (.enum a) env = (ev F a env >>= fun x => enumD x >>= fun r => .ret (.lst r)) := (rfl)
@[simp] theorem evs_nil' : evs F .nil env = .ret [] := (rfl)
@[simp] theorem evs_cons' (a as : E) : evs F (.cons a as) env = (ev F a env >>= fun x => evs F as env >>= fun xs => .ret (x :: xs)) := (rfl)
@[simp] theorem evo_nil' : evo F .nil env = .ret [] := (rfl)
@[simp] theorem evo_cons' (a as : E) : evo F (.cons a as) env = (ev F a env >>= fun d => own a d >>= fun x => evo F as env >>= fun xs => .ret (x :: xs)) := (rfl)
@[simp] theorem own_lst (e : E) (xs : List D) : own e (.lst xs) = if e.fresh = true then .ret (.cell xs) else .ret (.lst xs) := by
  unfold own
  split <;> rfl
@[simp] theorem own_tup (e : E) (xs : List D) : own e (.tup xs) = .ret (.tup xs) := by unfold own; split <;> rfl
@[simp] theorem own_int' (e : E) (i : Int) : own e (.int i) = .ret (.int i) := by unfold own; split <;> rfl
@[simp] theorem own_bl (e : E) (i : Bool) : own e (.bl i) = .ret (.bl i) := by unfold own; split <;> rfl
@[simp] theorem own_str (e : E) (i : Str) : own e (.str i) = .ret (.str i) := by unfold own; split <;> rfl
@[simp] theorem own_non (e : E) : own e .non = .ret .non := by unfold own; split <;> rfl
@[simp] theorem own_hand (e : E) : own e .hand = .ret .hand := by unfold own; split <;> rfl
@[simp] theorem own_crowd (e : E) (n : Nat) (ts : List (Nat × Nat)) (ns : List Nat) : own e (.crowd n ts ns) = .ret (.crowd n ts ns) := by unfold own; split <;> rfl
/-! operators -/
@[simp] theorem op_add (a b : D) : op2 .add a b = addD a b := (rfl)
@[simp] theorem op_sub (a b : Int) : op2 .sub (.int a) (.int b) = .ret (.int (a - b)) := (rfl)
@[simp] theorem op_mul (a b : D) : op2 .mul a b = mulD a b := (rfl)
@[simp] theorem op_eq (a b : D) : op2 .eq a b = (eqD a b >>= fun c => .ret (.bl c)) := (rfl)
@[simp] theorem op_ne (a b : D) : op2 .ne a b = (eqD a b >>= fun c => .ret (.bl (!c))) := (rfl)
@[simp] theorem op_lt (a b : D) : op2 .lt a b = ltD a b := (rfl)
@[simp] theorem op_gt (a b : Int) : op2 .gt (.int a) (.int b) = .ret (.bl (decide (b < a))) := (rfl)
@[simp] theorem op_le (a b : Int) : op2 .le (.int a) (.int b) = .ret (.bl (decide (a ≤ b))) := (rfl)
@[simp] theorem op_ge (a b : Int) : op2 .ge (.int a) (.int b) = .ret (.bl (decide (b ≤ a))) := (rfl)
@[simp] theorem op_in_tup (a : D) (xs : List D) : op2 .isin a (.tup xs) = (inD a xs >>= fun c => .ret (.bl c)) := (rfl)
@[simp] theorem op_in_lst (a : D) (xs : List D) : op2 .isin a (.lst xs) = (inD a xs >>= fun c => .ret (.bl c)) := (rfl)
@[simp] theorem op_in_cell (a : D) (xs : List D) : op2 .isin a (.cell xs) = (inD a xs >>= fun c => .ret (.bl c)) := (rfl)
@[simp] theorem op_nin_tup (a : D) (xs : List D) : op2 .notin a (.tup xs) = (inD a xs >>= fun c => .ret (.bl (!c))) := (rfl)
@[simp] theorem op_nin_lst (a : D) (xs : List D) : op2 .notin a (.lst xs) = (inD a xs >>= fun c => .ret (.bl (!c))) := (rfl)
@[simp] theorem op_nin_cell (a : D) (xs : List D) : op2 .notin a (.cell xs) = (inD a xs >>= fun c => .ret (.bl (!c))) := (rfl)
@[simp] theorem op_is (a : D) : op2 .is_ a .non = .ret (.bl (isNon a)) := (rfl)
@[simp] theorem op_isnot (a : D) : op2 .isnot a .non = .ret (.bl (!isNon a)) := (rfl)
@[simp] theorem op_isB' (a b : Bool) : op2 .is_ (.bl a) (.bl b) = .ret (.bl (decide (a = b))) := (rfl)
@[simp] theorem op_isnotB' (a b : Bool) : op2 .isnot (.bl a) (.bl b) = .ret (.bl (!decide (a = b))) := (rfl)
@[simp] theorem isNon_non : isNon .non = true := (rfl)
@[simp] theorem isNon_tup (xs : List D) : isNon (.tup xs) = false := (rfl)
@[simp] theorem isNon_int (i : Int) : isNon (.int i) = false := (rfl)
@[simp] theorem isNon_str (i : Str) : isNon (.str i) = false := (rfl)
@[simp] theorem lt_int (a b : Int) : ltD (.int a) (.int b) = .ret (.bl (decide (a < b))) := (rfl)
@[simp] theorem add_int (a b : Int) : addD (.int a) (.int b) = .ret (.int (a + b)) := (rfl)
@[simp] theorem add_tup (xs ys : List D) : addD (.tup xs) (.tup ys) = if xs.length + ys.length ≤ maxL then .ret (.tup (xs ++ ys)) else .bad := (rfl)
@[simp] theorem add_lst (xs ys : List D) : addD (.lst xs) (.lst ys) = if xs.length + ys.length ≤ maxL then .ret (.lst (xs ++ ys)) else .bad := (rfl)
@[simp] theorem add_cell (xs ys : List D) : addD (.cell xs) (.lst ys) = if xs.length + ys.length ≤ maxL then .ret (.lst (xs ++ ys)) else .bad := (rfl)
@[simp] theorem add_cell2 (xs ys : List D) : addD (.lst xs) (.cell ys) = if xs.length + ys.length ≤ maxL then .ret (.lst (xs ++ ys)) else .bad := (rfl)
@[simp] theorem add_cell3 (xs ys : List D) : addD (.cell xs) (.cell ys) = if xs.length + ys.length ≤ maxL then .ret (.lst (xs ++ ys)) else .bad := (rfl)
/-! built-ins -/
@[simp] theorem len_tup (xs : List D) : bltin .len [.tup xs] = .ret (.int xs.length) := (rfl)
@[simp] theorem len_lst (xs : List D) : bltin .len [.lst xs] = .ret (.int xs.length) := (rfl)
@[simp] theorem len_cell (xs : List D) : bltin .len [.cell xs] = .ret (.int xs.length) := (rfl)
@[simp] theorem tuple_tup (xs : List D) : bltin .tuple [.tup xs] = .ret (.tup xs) := (rfl)
@[simp] theorem tuple_lst (xs : List D) : bltin .tuple [.lst xs] = .ret (.tup xs) := (rfl)
@[simp] theorem tuple_cell (xs : List D) : bltin .tuple [.cell xs] = .ret (.tup xs) := (rfl)
@[simp] theorem list_tup (xs : List D) : bltin .list [.tup xs] = .ret (.lst xs) := (rfl)
@[simp] theorem list_lst (xs : List D) : bltin .list [.lst xs] = .ret (.lst xs) := (rfl)
@[simp] theorem list_cell (xs : List D) : bltin .list [.cell xs] = .ret (.lst xs) := (rfl)
@[simp] theorem int_int (i : Int) : bltin .int [.int i] = .ret (.int i) := (rfl)
@[simp] theorem int_bl (b : Bool) : bltin .int [.bl b] = .ret (.int (if b then 1 else 0)) := (rfl)
@[simp] theorem abs_int (i : Int) : bltin .abs [.int i] = .ret (.int (if i < 0 then -i else i)) := (rfl)
theorem min2_int (a b : Int) : bltin .min2 [.int a, .int b] = .ret (.int (if b < a then b else a)) := (rfl)
theorem max2_int (a b : Int) : bltin .max2 [.int a, .int b] = .ret (.int (if b > a then b else a)) := (rfl)
@[simp] theorem min2_nat (a b : Nat) : bltin .min2 [.int (a : Nat), .int (b : Nat)] = .ret (.int (min a b : Nat)) := by
  rw [min2_int]
  congr 2
  split <;> omega
@[simp] theorem max2_nat (a b : Nat) : bltin .max2 [.int (a : Nat), .int (b : Nat)] = .ret (.int (max a b : Nat)) := by
  rw [max2_int]
  congr 2
  split <;> omega
theorem bools_mapf {α : Type} (p : α → Bool) : ∀ l : List α, bools? (l.map fun a => D.bl (p a)) = some (l.map p)
  | [] => rfl
  | a :: l => by
    show (bools? (l.map fun a => D.bl (p a))).map (p a :: ·) = _
    rw [bools_mapf p l]
    rfl
@[simp] theorem all_map {α : Type} (p : α → Bool) (l : List α) : bltin .all [.lst (l.map fun a => D.bl (p a))] = .ret (.bl (l.all p)) := by
  show (match (bools? (l.map fun a => D.bl (p a))) with | some bs => T.ret (D.bl (bs.all id)) | none => T.bad) = _
  rw [bools_mapf]
  show T.ret (D.bl ((l.map p).all id)) = _
  rw [List.all_map]
  rfl
@[simp] theorem any_map' {α : Type} (p : α → Bool) (l : List α) : bltin .any [.lst (l.map fun a => D.bl (p a))] = .ret (.bl (l.any p)) := by
  show (match (bools? (l.map fun a => D.bl (p a))) with | some bs => T.ret (D.bl (bs.any id)) | none => T.bad) = _
  rw [bools_mapf]
  show T.ret (D.bl ((l.map p).any id)) = _
  rw [List.any_map]
  rfl
@[simp] theorem all_nil : bltin .all [.lst []] = .ret (.bl true) := (rfl)
@[simp] theorem any_nil : bltin .any [.lst []] = .ret (.bl false) := (rfl)
@[simp] theorem all_cons (p : Bool) (xs : List D) : bltin .all [.lst (.bl p :: xs)] = (bltin .all [.lst xs] >>= fun d => asB d >>= fun b => .ret (.bl (p && b))) := by
  show (match ((bools? xs).map (p :: ·)) with | some bs => T.ret (D.bl (bs.all id)) | none => T.bad) = ((match bools? xs with | some bs => T.ret (D.bl (bs.all id)) | none => T.bad) >>= _)
  cases bools? xs with
  | none => rfl
  | some bs => rfl
@[simp] theorem any_cons (p : Bool) (xs : List D) : bltin .any [.lst (.bl p :: xs)] = (bltin .any [.lst xs] >>= fun d => asB d >>= fun b => .ret (.bl (p || b))) := by
  show (match ((bools? xs).map (p :: ·)) with | some bs => T.ret (D.bl (bs.any id)) | none => T.bad) = ((match bools? xs with | some bs => T.ret (D.bl (bs.any id)) | none => T.bad) >>= _)
  cases bools? xs with
  | none => rfl
  | some bs => rfl
theorem ints_mapf {α : Type} (p : α → Int) : ∀ l : List α, ints? (l.map fun a => D.int (p a)) = some (l.map p)
  | [] => rfl
  | a :: l => by
    show (ints? (l.map fun a => D.int (p a))).map (p a :: ·) = _
    rw [ints_mapf p l]
    rfl
@[simp] theorem isi_int_int (i : Int) : isiD .int (.int i) = .ret (.bl true) := (rfl)
@[simp] theorem isi_int_bl (i : Bool) : isiD .int (.bl i) = .ret (.bl true) := (rfl)
@[simp] theorem isi_int_str (i : Str) : isiD .int (.str i) = .ret (.bl false) := (rfl)
@[simp] theorem isi_int_tup (i : List D) : isiD .int (.tup i) = .ret (.bl false) := (rfl)
@[simp] theorem isi_int_lst (i : List D) : isiD .int (.lst i) = .ret (.bl false) := (rfl)
@[simp] theorem isi_int_non : isiD .int .non = .ret (.bl false) := (rfl)
@[simp] theorem isi_bool_int (i : Int) : isiD .bool (.int i) = .ret (.bl false) := (rfl)
@[simp] theorem isi_bool_bl (i : Bool) : isiD .bool (.bl i) = .ret (.bl true) := (rfl)
@[simp] theorem isi_bool_str (i : Str) : isiD .bool (.str i) = .ret (.bl false) := (rfl)
@[simp] theorem isi_bool_tup (i : List D) : isiD .bool (.tup i) = .ret (.bl false) := (rfl)
@[simp] theorem isi_bool_lst (i : List D) : isiD .bool (.lst i) = .ret (.bl false) := (rfl)
@[simp] theorem isi_bool_non : isiD .bool .non = .ret (.bl false) := (rfl)
@[simp] theorem isi_tuple_int (i : Int) : isiD .tuple (.int i) = .ret (.bl false) := (rfl)
@[simp] theorem isi_tuple_bl (i : Bool) : isiD .tuple (.bl i) = .ret (.bl false) := (rfl)
@[simp] theorem isi_tuple_str (i : Str) : isiD .tuple (.str i) = .ret (.bl false) := (rfl)
@[simp] theorem isi_tuple_tup (i : List D) : isiD .tuple (.tup i) = .ret (.bl true) := (rfl)
@[simp] theorem isi_tuple_lst (i : List D) : isiD .tuple (.lst i) = .ret (.bl false) := (rfl)
@[simp] theorem isi_tuple_non : isiD .tuple .non = .ret (.bl false) := (rfl)
@[simp] theorem isi_list_int (i : Int) : isiD .list (.int i) = .ret (.bl false) := (rfl)
@[simp] theorem isi_list_bl (i : Bool) : isiD .list (.bl i) = .ret (.bl false) := (rfl)
@[simp] theorem isi_list_str (i : Str) : isiD .list (.str i) = .ret (.bl false) := (rfl)
@[simp] theorem isi_list_tup (i : List D) : isiD .list (.tup i) = .ret (.bl false) := (rfl)
@[simp] theorem isi_list_lst (i : List D) : isiD .list (.lst i) = .ret (.bl true) := (rfl)
@[simp] theorem isi_list_non : isiD .list .non = .ret (.bl false) := (rfl)
@[simp] theorem isi_dict_int (i : Int) : isiD .dict (.int i) = .ret (.bl false) := (rfl)
@[simp] theorem isi_dict_str (i : Str) : isiD .dict (.str i) = .ret (.bl false) := (rfl)
@[simp] theorem isi_dict_non : isiD .dict .non = .ret (.bl false) := (rfl)
@[simp] theorem isi_str_str (i : Str) : isiD .str (.str i) = .ret (.bl true) := (rfl)
@[simp] theorem isi_str_int (i : Int) : isiD .str (.int i) = .ret (.bl false) := (rfl)
@[simp] theorem isi_str_bl (i : Bool) : isiD .str (.bl i) = .ret (.bl false) := (rfl)
@[simp] theorem isi_str_tup (i : List D) : isiD .str (.tup i) = .ret (.bl false) := (rfl)
@[simp] theorem isi_str_lst (i : List D) : isiD .str (.lst i) = .ret (.bl false) := (rfl)
@[simp] theorem isi_str_non : isiD .str .non = .ret (.bl false) := (rfl)
theorem small_nat {n : Nat} (h : n ≤ 1000) : small (n : Nat) = true := by
  unfold small
  rw [Bool.and_eq_true, decide_eq_true_eq, decide_eq_true_eq]
  have e : (2 : Int) ^ 62 = 4611686018427387904 := rfl
  rw [e]
  omega
theorem rng1_nat {n : Nat} (h : n ≤ 1000) : rng1D (.int (n : Nat)) = .ret (.lst ((List.range n).map natD)) := by
  show (rngD 0 n >>= fun r => T.ret (D.lst r)) = _
  unfold rngD
  have e : ((n : Int) - 0).toNat = n := by omega
  rw [e, small_nat h, show small 0 = true from rfl, decide_eq_true (show n ≤ maxL by have : maxL = 1000000 := rfl; omega), if_pos (show (true && true && true) = true from rfl)]
  show T.ret (D.lst ((List.range n).map fun k => .int (0 + (k : Nat)))) = _
  congr 2
  apply List.map_congr_left
  intro a _
  show D.int _ = D.int _
  rw [Int.zero_add]
theorem ixN_nat {n k : Nat} (h : k < n) : L2.ixN n (k : Nat) = some k := by
  unfold L2.ixN
  rw [if_pos (by omega), if_pos (by omega)]
  simp
theorem ix_tup {α : Type} {f : α → D} {l : List α} {k : Nat} (h : k < l.length) : ixD (.tup (l.map f)) (.int (k : Nat)) = .ret (f l[k]) := by
  show (match L2.atI (l.map f) (k : Nat) with | some x => T.ret x | none => T.bad) = _
  unfold L2.atI
  rw [ixN_nat (by rw [List.length_map]; exact h)]
  show (match (l.map f)[k]? with | some x => T.ret x | none => T.bad) = _
  rw [List.getElem?_map, List.getElem?_eq_getElem h]
  rfl
theorem ix_get {xs : List D} {d : D} {k : Nat} (hd : d.its = some xs) (ht : ∀ cs, d ≠ .tape cs) (h : k < xs.length) : ixD d (.int (k : Nat)) = .ret xs[k] := by
  have e : ixD d (.int (k : Nat)) = (match d.its with | some xs => (match L2.atI xs (k : Nat) with | some x => T.ret x | none => T.bad) | none => T.bad) := by
    cases d <;> first | rfl | exact (ht _ rfl).elim
  rw [e, hd]
  show (match L2.atI xs (k : Nat) with | some x => T.ret x | none => T.bad) = _
  unfold L2.atI
  rw [ixN_nat h]
  show (match xs[k]? with | some x => T.ret x | none => T.bad) = _
  rw [List.getElem?_eq_getElem h]
@[simp] theorem ix0_tup (x : D) (xs : List D) : ixD (.tup (x :: xs)) (.int 0) = .ret x := ix_get (d := .tup (x :: xs)) (xs := x :: xs) (k := 0) rfl (fun _ e => by cases e) (by simp)
@[simp] theorem ix0_lst (x : D) (xs : List D) : ixD (.lst (x :: xs)) (.int 0) = .ret x := ix_get (d := .lst (x :: xs)) (xs := x :: xs) (k := 0) rfl (fun _ e => by cases e) (by simp)
@[simp] theorem ix0_cell (x : D) (xs : List D) : ixD (.cell (x :: xs)) (.int 0) = .ret x := ix_get (d := .cell (x :: xs)) (xs := x :: xs) (k := 0) rfl (fun _ e => by cases e) (by simp)
@[simp] theorem ix1_tup (x y : D) (xs : List D) : ixD (.tup (x :: y :: xs)) (.int 1) = .ret y := ix_get (d := .tup (x :: y :: xs)) (xs := x :: y :: xs) (k := 1) rfl (fun _ e => by cases e) (by simp)
@[simp] theorem ix2_tup (x y z : D) (xs : List D) : ixD (.tup (x :: y :: z :: xs)) (.int 2) = .ret z := ix_get (d := .tup (x :: y :: z :: xs)) (xs := x :: y :: z :: xs) (k := 2) rfl (fun _ e => by cases e) (by simp)
@[simp] theorem ix1_lst (x y : D) (xs : List D) : ixD (.lst (x :: y :: xs)) (.int 1) = .ret y := ix_get (d := .lst (x :: y :: xs)) (xs := x :: y :: xs) (k := 1) rfl (fun _ e => by cases e) (by simp)
@[simp] theorem ix2_lst (x y z : D) (xs : List D) : ixD (.lst (x :: y :: z :: xs)) (.int 2) = .ret z := ix_get (d := .lst (x :: y :: z :: xs)) (xs := x :: y :: z :: xs) (k := 2) rfl (fun _ e => by cases e) (by simp)
@[simp] theorem ix_parts0 (c : Cr) : ixD (partsD c) (.int 0) = .ret (.int c.n) := ix0_tup _ _
@[simp] theorem ix_parts1 (c : Cr) : ixD (partsD c) (.int 1) = .ret (.tup (c.ts.map tieD)) := ix1_tup _ _ _
@[simp] theorem ix_parts2 (c : Cr) : ixD (partsD c) (.int 2) = .ret (.tup (c.ns.map natD)) := ix2_tup _ _ _ _
theorem ix_nat {l : List Nat} {k : Nat} (h : k < l.length) : ixD (.tup (l.map natD)) (.int (k : Nat)) = .ret (.int (l.getD k 0 : Nat)) := by
  rw [ix_tup h, List.getD_eq_getElem?_getD, List.getElem?_eq_getElem h]
  rfl
/-! ### comprehensions -/
@[simp] theorem bind_one (i : Nat) (d : D) (env : Env) : bindTg (.one i) d env = .ret (env.set i (some d)) := (rfl)
@[simp] theorem bind_many (is : List Nat) (xs : List D) (env : Env) : bindTg (.many is) (.tup xs) env = setAll is xs env := (rfl)
@[simp] theorem setAll_nil (env : Env) : setAll [] [] env = .ret env := (rfl)
@[simp] theorem setAll_cons (i : Nat) (is : List Nat) (d : D) (ds : List D) (env : Env) : setAll (i :: is) (d :: ds) env = setAll is ds (env.set i (some d)) := (rfl)
@[simp] theorem setAllO_nil (env : Env) : setAllO [] [] env = env := (rfl)
@[simp] theorem setAllO_cons (i : Nat) (is : List Nat) (d : D) (ds : List D) (env : Env) : setAllO (i :: is) (d :: ds) env = setAllO is ds (env.set i (some d)) := (rfl)
@[simp] theorem wipe_nil (env : Env) : wipeE env [] = env := (rfl)
@[simp] theorem wipe_cons (env : Env) (v : Nat) (vs : List Nat) : wipeE env (v :: vs) = (wipeE env vs).set v none := (rfl)
theorem lcT_fm {α : Type} {step : D → T (Option D)} {f : α → D} {h : α → Option D} : ∀ {l : List α}, (∀ a ∈ l, step (f a) = .ret (h a)) → lcT step (l.map f) = .ret (l.filterMap h)
  | [], _ => rfl
  | a :: l, e => by
    show (step (f a) >>= fun o => lcT step (l.map f) >>= fun rest => T.ret (match o with | some y => y :: rest | none => rest)) = _
    rw [e a (.head _), ret_bind, lcT_fm fun b hb => e b (.tail _ hb), ret_bind, List.filterMap_cons]
    cases h a <;> rfl
theorem fm_filter {α β : Type} (p : α → Bool) (g : α → β) : ∀ l : List α, l.filterMap (fun a => if p a = true then some (g a) else none) = (l.filter p).map g
  | [] => rfl
  | a :: l => by
    rw [List.filterMap_cons, List.filter_cons, fm_filter p g l]
    cases p a <;> rfl
theorem ev_lcF {α : Type} {tg : Tg} {own : List Nat} {it test elt : E} (f : α → D) (l : List α) (p : α → Bool) (g : α → D) (hi : (ev F it env >>= itsT) = .ret (l.map f)) (hs : ∀ a ∈ l, lcStep F tg own test elt env (f a) = .ret (if p a = true then some (g a) else none)) :
    ev F (.lc tg own it test elt) env = .ret (.lst ((l.filter p).map g)) := by
  rw [ev_lc, hi, ret_bind, lcT_fm hs, fm_filter]
  rfl
theorem ev_lcM {α : Type} {tg : Tg} {own : List Nat} {it test elt : E} (f : α → D) (l : List α) (g : α → D) (hi : (ev F it env >>= itsT) = .ret (l.map f)) (hs : ∀ a ∈ l, lcStep F tg own test elt env (f a) = .ret (some (g a))) :
    ev F (.lc tg own it test elt) env = .ret (.lst (l.map g)) := by
  rw [ev_lc, hi, ret_bind, lcT_map hs]
  try rfl
@[simp] theorem lcStep_eq (tg : Tg) (own : List Nat) (test elt : E) (x : D) : lcStep F tg own test elt env x = (bindTg tg x (wipeE env own) >>= lcRest F test elt) := (rfl)
@[simp] theorem lcRest_eq (test elt : E) : lcRest F test elt env = ((if isNil test then .ret true else ev F test env >>= asB) >>= fun k => if k = true then (ev F elt env >>= fun y => chkC y >>= fun y => .ret (some y)) else .ret none) := (rfl)
@[simp] theorem isNil_nil : isNil .nil = true := (rfl)
@[simp] theorem isNil_op (o : O2) (a b : E) : isNil (.op o a b) = false := (rfl)
@[simp] theorem isNil_chain (o o2 : O2) (a b c : E) : isNil (.chain o o2 a b c) = false := (rfl)
@[simp] theorem isNil_and (a b : E) : isNil (.and a b) = false := (rfl)
@[simp] theorem isNil_or (a b : E) : isNil (.or a b) = false := (rfl)
@[simp] theorem isNil_nt (a : E) : isNil (.nt a) = false := (rfl)
@[simp] theorem isNil_call (f : String) (a : E) : isNil (.call f a) = false := (rfl)
@[simp] theorem isNil_blt (f : Bi) (a : E) : isNil (.blt f a) = false := (rfl)
@[simp] theorem isNil_var (i : Nat) : isNil (.var i) = false := (rfl)
@[simp] theorem isNil_int (i : Int) : isNil (.int i) = false := (rfl)
@[simp] theorem isNil_ix (a b : E) : isNil (.ix a b) = false := (rfl)
/-! ### statements -/
def seqR (t : T R) (k : Env → T R) : T R := t >>= fun o => match o with
  | .nx e => k e
  | .bk e => .ret (.bk e)
  | .rt d e => .ret (.rt d e)
@[simp] theorem exec_cons' (s ss : S) : exec F (.cons s ss) env = seqR (exec F s env) (exec F ss) := (rfl)
@[simp] theorem exec_nil' : exec F .nil env = .ret (.nx env) := (rfl)
@[simp] theorem seq_nx (e : Env) (k : Env → T R) : seqR (.ret (.nx e)) k = k e := (rfl)
@[simp] theorem seq_rt (d : D) (e : Env) (k : Env → T R) : seqR (.ret (.rt d e)) k = .ret (.rt d e) := (rfl)
@[simp] theorem seq_bk (e : Env) (k : Env → T R) : seqR (.ret (.bk e)) k = .ret (.bk e) := (rfl)
@[simp] theorem seq_ite (c : Prop) [Decidable c] (a b : T R) (k : Env → T R) : seqR (if c then a else b) k = if c then seqR a k else seqR b k := by split <;> rfl
@[simp] theorem exec_ret' (e : E) : exec F (.ret e) env = (ev F e env >>= fun d => retT e d >>= fun d => .ret (.rt d env)) := (rfl)
@[simp] theorem exec_set' (i : Nat) (e : E) : exec F (.set (.one i) e) env = (ev F e env >>= fun d => own e d >>= fun d => .ret (.nx (env.set i (some d)))) := (rfl)
@[simp] theorem exec_setm (is : List Nat) (e : E) : exec F (.set (.many is) e) env = (ev F e env >>= fun d => bindTg (.many is) d env >>= fun e2 => .ret (.nx e2)) := (rfl)
@[simp] theorem exec_par (is : List Nat) (es : E) : exec F (.par is es) env = (evo F es env >>= fun ds => .ret (.nx (setAllO is ds env))) := (rfl)
@[simp] theorem exec_expr (e : E) : exec F (.expr e) env = (ev F e env >>= fun _ => .ret (.nx env)) := (rfl)
@[simp] theorem exec_ite (c : E) (a b : S) : exec F (.ite c a b) env = (ev F c env >>= fun x => asB x >>= fun k => if k = true then exec F a env else exec F b env) := (rfl)
@[simp] theorem exec_brk : exec F .brk env = .ret (.bk env) := (rfl)
@[simp] theorem exec_pass : exec F .pass env = .ret (.nx env) := (rfl)
def cellT (o : Option (Option D)) (k : List D → T R) : T R := match o with
  | some (some (.cell xs)) => k xs
  | _ => .bad
@[simp] theorem cellT_cell (xs : List D) (k : List D → T R) : cellT (some (some (.cell xs))) k = k xs := (rfl)
@[simp] theorem exec_app (i : Nat) (e : E) : exec F (.app i e) env = cellT env[i]? fun xs => ev F e env >>= fun d => chkC d >>= fun d => if xs.length < maxL then .ret (.nx (env.set i (some (.cell (xs ++ [d]))))) else .bad := by
  show (match env[i]? with | some (some (.cell xs)) => _ | _ => T.bad) = _
  unfold cellT
  rfl
@[simp] theorem exec_setl (i : Nat) (e : E) : exec F (.setl i e) env = (ev F e env >>= fun d => chkC d >>= fun d => .ret (.nx (env.set i (some d)))) := (rfl)
def popT (i j : Nat) (xs ys : List D) (env : Env) : D → T R
  | .int n => (match (if 0 ≤ n ∧ i ≠ j then ys[n.toNat]? else none) with
      | some y => if xs.length < maxL ∧ n < 2 ^ 62 then .ret (.nx ((env.set j (some (.cell (ys.eraseIdx n.toNat)))).set i (some (.cell (xs ++ [y]))))) else .bad
      | none => .bad)
  | _ => .bad
@[simp] theorem exec_apop (i j : Nat) (e : E) : exec F (.apop i j e) env = cellT env[i]? fun xs => cellT env[j]? fun ys => ev F e env >>= popT i j xs ys env := by
  show (match env[i]? with | some (some (.cell xs)) => (match env[j]? with | some (some (.cell ys)) => _ | _ => T.bad) | _ => T.bad) = _
  unfold cellT
  rfl
@[simp] theorem exec_ext (i : Nat) (e : E) : exec F (.ext i e) env = cellT env[i]? fun xs => ev F e env >>= fun d => match d.asL with
      | some ys => if xs.length + ys.length ≤ maxL then .ret (.nx (env.set i (some (.cell (xs ++ ys))))) else .bad
      | none => .bad := by
  show (match env[i]? with | some (some (.cell xs)) => _ | _ => T.bad) = _
  unfold cellT
  rfl
def finR (t : T R) : T D := t >>= endT
@[simp] theorem fin_rt (d : D) (e : Env) : finR (.ret (.rt d e)) = .ret d := (rfl)
@[simp] theorem fin_nx (e : Env) : finR (.ret (.nx e)) = .ret .non := (rfl)
@[simp] theorem fin_ite (c : Prop) [Decidable c] (a b : T R) : finR (if c then a else b) = if c then finR a else finR b := by split <;> rfl
theorem callF_env {prim : Fns} {fs : List DefS} {f : String} {d : DefS} {ds : List D} {env : Env} {n : Nat} (hn : 0 < n) (h : findD fs f = some d) (hl : ds.length = d.ps.length) (he : envOf d.N ds = env) : callF prim fs n f ds = finR (exec (callF prim fs (n - 1)) d.body env) := by
  obtain ⟨m, rfl⟩ : ∃ m, n = m + 1 := ⟨n - 1, by omega⟩
  rw [callF_def h, if_pos hl, he]
  rfl
theorem whileT_inv {c : Env → T Bool} {body : Env → T R} (I : Nat → Env → Prop) (Q : R → Prop)
    (step : ∀ m env, I m env → (c env = .ret false ∧ Q (.nx env)) ∨ (c env = .ret true ∧ ∃ o, body env = .ret o ∧ match o with | .nx e => ∃ m', m' < m ∧ I m' e | .bk e => Q (.nx e) | .rt d e => Q (.rt d e))) :
    ∀ (k m : Nat) (env : Env), I m env → m < k → ∃ r, whileT c body k env = .ret r ∧ Q r
  | 0, m, env, _, hk => absurd hk (by omega)
  | k + 1, m, env, hI, hk => by
    show ∃ r, (c env >>= fun b => if b = true then (body env >>= fun o => match o with | .nx env2 => whileT c body k env2 | .bk env2 => .ret (.nx env2) | .rt d e => .ret (.rt d e)) else .ret (.nx env)) = .ret r ∧ Q r
    rcases step m env hI with ⟨h1, h2⟩ | ⟨h1, o, h2, h3⟩
    · exact ⟨_, by rw [h1]; rfl, h2⟩
    · rw [h1, ret_bind, if_pos rfl, h2, ret_bind]
      cases o with
      | nx e =>
        obtain ⟨m', hm, hI'⟩ := h3
        exact whileT_inv I Q step k m' e hI' (by omega)
      | bk e => exact ⟨_, rfl, h3⟩
      | rt d e => exact ⟨_, rfl, h3⟩
theorem exec_while (c : E) (b : S) : exec F (.while_ c b) env = whileT (fun env => ev F c env >>= asB) (fun env => exec F b env) fuel env := rfl
theorem exec_while_inv {c : E} {b : S} (I : Nat → Env → Prop) (Q : R → Prop)
    (step : ∀ m env, I m env → ((ev F c env >>= asB) = .ret false ∧ Q (.nx env)) ∨ ((ev F c env >>= asB) = .ret true ∧ ∃ o, exec F b env = .ret o ∧ match o with | .nx e => ∃ m', m' < m ∧ I m' e | .bk e => Q (.nx e) | .rt d e => Q (.rt d e))) (m : Nat) (env : Env) (hI : I m env) (hm : m < 4000) :
    ∃ r, exec F (.while_ c b) env = .ret r ∧ Q r := by
  rw [exec_while]
  exact whileT_inv I Q step _ m env hI hm
theorem forT_inv {α : Type} {body : Env → T R} {tg : Tg} (f : α → D) (I : List α → Env → Prop) (Q : R → Prop) :
    ∀ (l : List α), (∀ a r env, (∃ q, l = q ++ a :: r) → I (a :: r) env → ∃ env1, bindTg tg (f a) env = .ret env1 ∧ ∃ o, body env1 = .ret o ∧ match o with | .nx e => I r e | .bk e => Q (.nx e) | .rt d e => Q (.rt d e)) →
    (∀ e, I [] e → Q (.nx e)) → ∀ env, I l env → ∃ r, forT body tg (l.map f) env = .ret r ∧ Q r
  | [], step, hend, env, hI => ⟨_, rfl, hend _ hI⟩
  | a :: l, step, hend, env, hI => by
    obtain ⟨env1, h1, o, h2, h3⟩ := step a l env ⟨[], rfl⟩ hI
    show ∃ r, (bindTg tg (f a) env >>= fun env1 => body env1 >>= fun o => match o with | .nx env2 => forT body tg (l.map f) env2 | .bk env2 => .ret (.nx env2) | .rt d e => .ret (.rt d e)) = .ret r ∧ Q r
    rw [h1, ret_bind, h2, ret_bind]
    cases o with
    | nx e => exact forT_inv f I Q l (fun b r env hq => step b r env (by obtain ⟨q, hq⟩ := hq; exact ⟨a :: q, by rw [hq]; rfl⟩)) hend e h3
    | bk e => exact ⟨_, rfl, h3⟩
    | rt d e => exact ⟨_, rfl, h3⟩
theorem exec_for (tg : Tg) (it : E) (b : S) : exec F (.for_ tg it b) env = ((ev F it env >>= itsT) >>= fun xs => if mayWalk env it (dbl tg.is ++ b.touch) then forT (fun env => exec F b env) tg xs env else .bad) := by
  rw [T.bind_assoc]
  rfl
theorem exec_for_inv {α : Type} {tg : Tg} {it : E} {b : S} (f : α → D) (l : List α) (I : List α → Env → Prop) (Q : R → Prop) (hi : (ev F it env >>= itsT) = .ret (l.map f)) (hw : mayWalk env it (dbl tg.is ++ b.touch) = true)
    (step : ∀ a r env, (∃ q, l = q ++ a :: r) → I (a :: r) env → ∃ env1, bindTg tg (f a) env = .ret env1 ∧ ∃ o, exec F b env1 = .ret o ∧ match o with | .nx e => I r e | .bk e => Q (.nx e) | .rt d e => Q (.rt d e))
    (hend : ∀ e, I [] e → Q (.nx e)) (h0 : I l env) : ∃ r, exec F (.for_ tg it b) env = .ret r ∧ Q r := by
  obtain ⟨r, e, q⟩ := forT_inv (body := fun env => exec F b env) (tg := tg) f I Q l step hend env h0
  refine ⟨r, ?_, q⟩
  rw [exec_for, hi, ret_bind, if_pos hw, e]
theorem forT_wp {α : Type} {body : Env → T R} {tg : Tg} (f : α → D) (I : List α → Env → Prop) (Q : R → Prop) :
    ∀ (l : List α), (∀ a r env, (∃ q, l = q ++ a :: r) → I (a :: r) env → ∃ env1, bindTg tg (f a) env = .ret env1 ∧ Wp (body env1) fun o => match o with | .nx e => I r e | .bk e => Q (.nx e) | .rt d e => Q (.rt d e)) →
    (∀ e, I [] e → Q (.nx e)) → ∀ env, I l env → Wp (forT body tg (l.map f) env) Q
  | [], step, hend, env, hI => ⟨hend _ hI⟩
  | a :: l, step, hend, env, hI => by
    obtain ⟨env1, h1, h2⟩ := step a l env ⟨[], rfl⟩ hI
    show Wp (bindTg tg (f a) env >>= fun env1 => body env1 >>= fun o => match o with | .nx env2 => forT body tg (l.map f) env2 | .bk env2 => T.ret (.nx env2) | .rt d e => T.ret (.rt d e)) Q
    rw [h1, ret_bind]
    refine wp_bindI (h2.imp fun o h3 => ?_)
    cases o with
    | nx e => exact forT_wp f I Q l (fun b r env hq => step b r env (by obtain ⟨q, hq⟩ := hq; exact ⟨a :: q, by rw [hq]; rfl⟩)) hend e h3
    | bk e => exact ⟨h3⟩
    | rt d e => exact ⟨h3⟩
theorem exec_for_wp {α : Type} {tg : Tg} {it : E} {b : S} (f : α → D) (l : List α) (I : List α → Env → Prop) (Q : R → Prop) (hi : (ev F it env >>= itsT) = .ret (l.map f)) (hw : mayWalk env it (dbl tg.is ++ b.touch) = true)
    (step : ∀ a r env, (∃ q, l = q ++ a :: r) → I (a :: r) env → ∃ env1, bindTg tg (f a) env = .ret env1 ∧ Wp (exec F b env1) fun o => match o with | .nx e => I r e | .bk e => Q (.nx e) | .rt d e => Q (.rt d e))
    (hend : ∀ e, I [] e → Q (.nx e)) (h0 : I l env) : Wp (exec F (.for_ tg it b) env) Q := by
  rw [exec_for, hi, ret_bind, if_pos hw]
  exact forT_wp f I Q l step hend env h0
theorem exec_for_nx {α : Type} {tg : Tg} {it : E} {b : S} (f : α → D) (l : List α) (I : List α → Env → Prop) (hi : (ev F it env >>= itsT) = .ret (l.map f)) (hw : mayWalk env it (dbl tg.is ++ b.touch) = true)
    (step : ∀ a r env, (∃ q, l = q ++ a :: r) → I (a :: r) env → ∃ env1, bindTg tg (f a) env = .ret env1 ∧ ∃ e, exec F b env1 = .ret (.nx e) ∧ I r e)
    (h0 : I l env) : ∃ e, exec F (.for_ tg it b) env = .ret (.nx e) ∧ I [] e := by
  obtain ⟨r, e, q⟩ := exec_for_inv (F := F) f l I (fun r => ∃ e, r = .nx e ∧ I [] e) hi hw (fun a r env hq hI => by
    obtain ⟨env1, h1, e, h2, h3⟩ := step a r env hq hI
    exact ⟨env1, h1, _, h2, h3⟩) (fun e he => ⟨e, rfl, he⟩) h0
  obtain ⟨e', rfl, q⟩ := q
  exact ⟨e', e, q⟩
theorem exec_while_nx {c : E} {b : S} (I : Nat → Env → Prop) (Q : Env → Prop)
    (step : ∀ m env, I m env → ((ev F c env >>= asB) = .ret false ∧ Q env) ∨ ((ev F c env >>= asB) = .ret true ∧ ∃ e, exec F b env = .ret (.nx e) ∧ ∃ m', m' < m ∧ I m' e)) (m : Nat) (env : Env) (hI : I m env) (hm : m < 4000) :
    ∃ e, exec F (.while_ c b) env = .ret (.nx e) ∧ Q e := by
  obtain ⟨r, e, q⟩ := exec_while_inv (F := F) I (fun r => ∃ e, r = .nx e ∧ Q e) (fun m env hI => by
    rcases step m env hI with ⟨h1, h2⟩ | ⟨h1, e, h2, h3⟩
    · exact .inl ⟨h1, env, rfl, h2⟩
    · exact .inr ⟨h1, _, h2, h3⟩) m env hI hm
  obtain ⟨e', rfl, q⟩ := q
  exact ⟨e', e, q⟩
@[simp] theorem seq_draw (m : Nat) (t : Nat → T R) (k : Env → T R) : seqR (T.draw m t) k = T.draw m fun i => seqR (t i) k := (rfl)
@[simp] theorem fin_draw (m : Nat) (t : Nat → T R) : finR (T.draw m t) = T.draw m fun i => finR (t i) := (rfl)
@[simp] theorem seq_bind {α : Type} (t : T α) (f : α → T R) (k : Env → T R) : seqR (t >>= f) k = (t >>= fun a => seqR (f a) k) := T.bind_assoc t f _
@[simp] theorem fin_bind {α : Type} (t : T α) (f : α → T R) : finR (t >>= f) = (t >>= fun a => finR (f a)) := T.bind_assoc t f _
theorem fin_seq_wp {t : T R} {k : Env → T R} {q : D → Prop} (h : Wp t fun o => match o with | .nx e => Wp (finR (k e)) q | .bk _ => False | .rt d _ => q d) : Wp (finR (seqR t k)) q := by
  unfold seqR
  rw [fin_bind]
  refine wp_bindI (h.imp fun o ho => ?_)
  cases o with
  | nx e => exact ho
  | bk e => exact ho.elim
  | rt d e => exact ⟨ho⟩
theorem seq_wp {t : T R} {k : Env → T R} {q : R → Prop} (h : Wp t fun o => match o with | .nx e => Wp (k e) q | .bk e => q (.bk e) | .rt d e => q (.rt d e)) : Wp (seqR t k) q := by
  unfold seqR
  refine wp_bindI (h.imp fun o ho => ?_)
  cases o with
  | nx e => exact ho
  | bk e => exact ⟨ho⟩
  | rt d e => exact ⟨ho⟩
theorem lcT_wp {α : Type} {step : D → T (Option D)} {f g : α → D} : ∀ {l : List α}, (∀ a ∈ l, Wp (step (f a)) fun o => o = none ∨ o = some (g a)) → Wp (lcT step (l.map f)) fun ys => ∃ l' : List α, l'.Sublist l ∧ ys = l'.map g
  | [], _ => ⟨[], List.Sublist.refl _, rfl⟩
  | a :: l, e => by
    show Wp (step (f a) >>= fun o => lcT step (l.map f) >>= fun rest => T.ret (match o with | some y => y :: rest | none => rest)) _
    refine wp_bindI ((e a (.head _)).imp fun o ho => wp_bindI ((lcT_wp fun b hb => e b (.tail _ hb)).imp fun ys hys => ?_))
    obtain ⟨l', h1, rfl⟩ := hys
    rcases ho with rfl | rfl
    · exact ⟨l', h1.cons a, rfl⟩
    · exact ⟨a :: l', h1.cons_cons a, rfl⟩
theorem ev_lc_wp {α : Type} {tg : Tg} {own : List Nat} {it test elt : E} (f : α → D) (l : List α) (g : α → D) {q : D → Prop} (hi : (ev F it env >>= itsT) = .ret (l.map f)) (hs : ∀ a ∈ l, Wp (lcStep F tg own test elt env (f a)) fun o => o = none ∨ o = some (g a)) (hq : ∀ l' : List α, l'.Sublist l → q (.lst (l'.map g))) :
    Wp (ev F (.lc tg own it test elt) env) q := by
  rw [ev_lc, hi, ret_bind]
  refine wp_bindI ((lcT_wp hs).imp fun ys hys => ?_)
  obtain ⟨l', h1, rfl⟩ := hys
  exact ⟨hq l' h1⟩
theorem exec_for_wpn {α : Type} {tg : Tg} {it : E} {b : S} (f : α → D) (l : List α) (I : List α → Env → Prop) {Q : R → Prop} (hi : (ev F it env >>= itsT) = .ret (l.map f)) (hw : mayWalk env it (dbl tg.is ++ b.touch) = true)
    (step : ∀ a r env, (∃ q, l = q ++ a :: r) → I (a :: r) env → ∃ env1, bindTg tg (f a) env = .ret env1 ∧ ∀ Qs : R → Prop, (∀ e, I r e → Qs (.nx e)) → Wp (exec F b env1) Qs)
    (h0 : I l env) (hq : ∀ e, I [] e → Q (.nx e)) : Wp (exec F (.for_ tg it b) env) Q := by
  refine (exec_for_wp (F := F) f l I (fun r => ∃ e, r = .nx e ∧ I [] e) hi hw (fun a r env hq hI => ?_) (fun e he => ⟨e, rfl, he⟩) h0).imp fun r hr => ?_
  · obtain ⟨env1, h1, h2⟩ := step a r env hq hI
    exact ⟨env1, h1, h2 _ fun e he => he⟩
  · obtain ⟨e, rfl, he⟩ := hr
    exact hq e he
end
end Fm

/-! FpA: the program's small judges; crowds made. -/
namespace Fm
open PySem PySem.Spec PyProof.Rows L2
structure HasB (fs : List DefS) (f : String) (np nN : Nat) (b : S) : Prop where
  ex : ∃ ps N, findD fs f = some ⟨f, ps, N, b⟩ ∧ ps.length = np ∧ N.length = nN
theorem HasB.call {prim : Fns} {fs : List DefS} {f : String} {np nN n : Nat} {b : S} (h : HasB fs f np nN b) (hn : 0 < n) {ds : List D} (hl : ds.length = np) (env : Env) (he : ds.map some ++ List.replicate (nN - np) none = env) :
    callF prim fs n f ds = finR (exec (callF prim fs (n - 1)) b env) := by
  obtain ⟨ps, N, h1, h2, h3⟩ := h.ex
  refine callF_env hn h1 (hl.trans h2.symm) ?_
  unfold envOf
  rw [← he, h3, hl]
structure NoB (fs : List DefS) (f : String) : Prop where
  no : findD fs f = none
theorem NoB.call {prim : Fns} {fs : List DefS} {f : String} {n : Nat} (h : NoB fs f) (ds : List D) : callF prim fs n f ds = prim f ds := congrFun (callF_prim h.no n) ds
/- is_integer: 0 thing, -/
def b_is_integer : S :=
 (.cons (.ret (.and (.isi (.var 0) .int) (.nt (.isi (.var 0) .bool))))
 .nil)

/- is_within: 0 thing, 1 low, 2 high, -/
def b_is_within : S :=
 (.cons (.ret (.and (.call "is_integer" (.cons (.var 0) .nil)) (.chain .le .le (.var 1) (.var 0) (.var 2))))
 .nil)

/- is_tuple: 0 thing, 1 least, 2 most, -/
def b_is_tuple : S :=
 (.cons (.ret (.and (.isi (.var 0) .tuple) (.chain .le .le (.var 1) (.blt .len (.cons (.var 0) .nil)) (.var 2))))
 .nil)

/- is_tie: 0 persons, 1 thing, 2 person, -/
def b_is_tie : S :=
 (.cons (.ite (.or (.nt (.call "is_tuple" (.cons (.var 1) (.cons (.int 2) (.cons (.int 2) .nil))))) (.nt (.blt .all (.cons (.lc (.one 2) [2] (.var 1) .nil (.call "is_within" (.cons (.var 2) (.cons (.int 0) (.cons (.op .sub (.var 0) (.int 1)) .nil))))) .nil))))
 (.cons (.ret (.bl false))
 .nil)
 .nil)
 (.cons (.ret (.op .lt (.ix (.var 1) (.int 0)) (.ix (.var 1) (.int 1))))
 .nil))

/- are_ties: 0 persons, 1 thing, 2 one, 3 other, 4 tie, -/
def b_are_ties : S :=
 (.cons (.ite (.or (.nt (.isi (.var 1) .tuple)) (.nt (.blt .all (.cons (.lc (.one 4) [4] (.var 1) .nil (.call "is_tie" (.cons (.var 0) (.cons (.var 4) .nil)))) .nil))))
 (.cons (.ret (.bl false))
 .nil)
 .nil)
 (.cons (.ret (.blt .all (.cons (.lc (.many [2, 3]) [2, 3] (.zip (.var 1) (.sl (.var 1) (.int 1) .nil)) .nil (.op .lt (.var 2) (.var 3))) .nil)))
 .nil))

/- are_needs: 0 persons, 1 thing, 2 need, -/
def b_are_needs : S :=
 (.cons (.ret (.and (.call "is_tuple" (.cons (.var 1) (.cons (.var 0) (.cons (.var 0) .nil)))) (.blt .all (.cons (.lc (.one 2) [2] (.var 1) .nil (.call "is_within" (.cons (.var 2) (.cons (.int 0) (.cons (.gint "MOST_NEED" 9) .nil))))) .nil))))
 .nil)

/- is_lot: 0 thing, 1 many, 2 one, 3 other, -/
def b_is_lot : S :=
 (.cons (.ite (.or (.nt (.isi (.var 0) .tuple)) (.nt (.blt .all (.cons (.lc (.one 2) [2] (.var 0) .nil (.call "is_within" (.cons (.var 2) (.cons (.int 0) (.cons (.op .sub (.var 1) (.int 1)) .nil))))) .nil))))
 (.cons (.ret (.bl false))
 .nil)
 .nil)
 (.cons (.ret (.blt .all (.cons (.lc (.many [2, 3]) [2, 3] (.zip (.var 0) (.sl (.var 0) (.int 1) .nil)) .nil (.op .lt (.var 2) (.var 3))) .nil)))
 .nil))

/- is_lot_of: 0 crowd, 1 thing, -/
def b_is_lot_of : S :=
 (.cons (.ret (.call "is_lot" (.cons (.var 1) (.cons (.attr (.var 0) "persons") .nil))))
 .nil)

/- check_lot: 0 crowd, 1 lot, -/
def b_check_lot : S :=
 (.cons (.ite (.nt (.call "is_lot_of" (.cons (.var 0) (.cons (.var 1) .nil))))
 (.cons .never
 .nil)
 .nil)
 .nil)

/- is_person: 0 crowd, 1 thing, -/
def b_is_person : S :=
 (.cons (.ret (.call "is_within" (.cons (.var 1) (.cons (.int 0) (.cons (.op .sub (.attr (.var 0) "persons") (.int 1)) .nil)))))
 .nil)

/- check_person: 0 crowd, 1 person, -/
def b_check_person : S :=
 (.cons (.ite (.nt (.call "is_person" (.cons (.var 0) (.cons (.var 1) .nil))))
 (.cons .never
 .nil)
 .nil)
 .nil)

abbrev K_is_integer (fs : List DefS) : Prop := HasB fs "is_integer" 1 1 b_is_integer
abbrev K_is_within (fs : List DefS) : Prop := HasB fs "is_within" 3 3 b_is_within ∧ K_is_integer fs
abbrev K_is_tuple (fs : List DefS) : Prop := HasB fs "is_tuple" 3 3 b_is_tuple
abbrev K_is_tie (fs : List DefS) : Prop := HasB fs "is_tie" 2 3 b_is_tie ∧ K_is_tuple fs ∧ K_is_within fs
abbrev K_are_ties (fs : List DefS) : Prop := HasB fs "are_ties" 2 5 b_are_ties ∧ K_is_tie fs
abbrev K_are_needs (fs : List DefS) : Prop := HasB fs "are_needs" 2 3 b_are_needs ∧ K_is_tuple fs ∧ K_is_within fs
abbrev K_is_lot (fs : List DefS) : Prop := HasB fs "is_lot" 2 4 b_is_lot ∧ K_is_within fs
abbrev K_is_lot_of (fs : List DefS) : Prop := HasB fs "is_lot_of" 2 2 b_is_lot_of ∧ K_is_lot fs
abbrev K_check_lot (fs : List DefS) : Prop := HasB fs "check_lot" 2 2 b_check_lot ∧ K_is_lot_of fs
abbrev K_is_person (fs : List DefS) : Prop := HasB fs "is_person" 2 2 b_is_person ∧ K_is_within fs
abbrev K_check_person (fs : List DefS) : Prop := HasB fs "check_person" 2 2 b_check_person ∧ K_is_person fs
section
variable {prim : Fns} {fs : List DefS} {n : Nat}
theorem p_is_integer (K : K_is_integer fs) (hn : 1 ≤ n) (i : Int) : callF prim fs n "is_integer" [.int i] = .ret (.bl true) := by
  rw [K.call hn rfl [some (.int i)] rfl]
  unfold b_is_integer
  simp
theorem p_is_within (K : K_is_within fs) (hn : 2 ≤ n) (i lo hi : Int) : callF prim fs n "is_within" [.int i, .int lo, .int hi] = .ret (.bl (decide (lo ≤ i ∧ i ≤ hi))) := by
  rw [K.1.call (by omega) rfl [some (.int i), some (.int lo), some (.int hi)] rfl]
  unfold b_is_within
  simp [p_is_integer K.2 (show 1 ≤ n - 1 by omega)]
theorem p_is_tuple (K : K_is_tuple fs) (hn : 1 ≤ n) (xs : List D) (lo hi : Int) : callF prim fs n "is_tuple" [.tup xs, .int lo, .int hi] = .ret (.bl (decide (lo ≤ xs.length ∧ (xs.length : Int) ≤ hi))) := by
  rw [K.call hn rfl [some (.tup xs), some (.int lo), some (.int hi)] rfl]
  unfold b_is_tuple
  simp
theorem cut1 (xs : List D) : cutD xs (some 1) none = xs.drop 1 := by
  unfold cutD
  have e1 : HT.sIx xs.length xs.length none = xs.length := rfl
  rw [e1]
  cases xs with
  | nil => rfl
  | cons x xs =>
    have e2 : HT.sIx (x :: xs).length 0 (some 1) = 1 := by
      simp [HT.sIx]
    rw [e2]
    simp
@[simp] theorem sl1 {α : Type} (f : α → D) (l : List α) : slD (.tup (l.map f)) (some 1) none = .ret (.tup (l.tail.map f)) := by
  show T.ret (D.tup (cutD (l.map f) (some 1) none)) = _
  rw [cut1, List.drop_one, List.map_tail]
@[simp] theorem bound1 : boundD (.int 1) = .ret (some 1) := rfl
theorem zip_map2 {α β : Type} (f : α → D) (g : β → D) (l : List α) (m : List β) : ((l.map f).zip (m.map g)).map (fun p => D.tup [p.1, p.2]) = (l.zip m).map fun p => D.tup [f p.1, g p.2] := by
  rw [List.zip_map, List.map_map]
  rfl
@[simp] theorem zip_tups {α β : Type} (f : α → D) (g : β → D) (l : List α) (m : List β) : zipD (.tup (l.map f)) (.tup (m.map g)) = .ret ((l.zip m).map fun p => D.tup [f p.1, g p.2]) := congrArg T.ret (zip_map2 f g l m)
@[simp] theorem zip_tail {α : Type} (f : α → D) (l : List α) : zipD (.tup (l.map f)) (.tup (l.map f).tail) = .ret ((l.zip l.tail).map fun p => D.tup [f p.1, f p.2]) := by
  rw [← List.map_tail, zip_tups]
@[simp] theorem zip_lsts {α β : Type} (f : α → D) (g : β → D) (l : List α) (m : List β) : zipD (.lst (l.map f)) (.lst (m.map g)) = .ret ((l.zip m).map fun p => D.tup [f p.1, g p.2]) := congrArg T.ret (zip_map2 f g l m)
theorem pairwise_zip {α : Type} {r : α → α → Prop} (tr : ∀ a b c, r a b → r b c → r a c) : ∀ {l : List α}, l.Pairwise r ↔ ∀ p ∈ l.zip l.tail, r p.1 p.2
  | [] => by simp
  | [a] => by simp
  | a :: b :: l => by
    rw [List.pairwise_cons, pairwise_zip tr (l := b :: l)]
    simp only [List.tail_cons, List.zip_cons_cons, List.mem_cons]
    constructor
    · rintro ⟨h1, h2⟩ p (rfl | hp)
      · exact h1 b (.inl rfl)
      · exact h2 p hp
    · intro h
      have h2 : ∀ p ∈ (b :: l).zip (b :: l).tail, r p.1 p.2 := fun p hp => h p (.inr hp)
      refine ⟨fun x hx => ?_, h2⟩
      have h3 := h (a, b) (.inl rfl)
      rcases hx with rfl | hx
      · exact h3
      · have := (List.pairwise_cons.mp ((pairwise_zip tr (l := b :: l)).mpr h2)).1 x hx
        exact tr _ _ _ h3 this
theorem p_is_lot (K : K_is_lot fs) (hn : 3 ≤ n) {l : List Nat} {m : Nat} (h : IsLot m l) : callF prim fs n "is_lot" [.tup (l.map natD), .int (m : Nat)] = .ret (.bl true) := by
  rw [K.1.call (by omega) rfl [some (.tup (l.map natD)), some (.int m), none, none] rfl]
  unfold b_is_lot
  have e1 : ∀ i lo hi, callF prim fs (n - 1) "is_within" [.int i, .int lo, .int hi] = .ret (.bl (decide (lo ≤ i ∧ i ≤ hi))) := p_is_within K.2 (by omega)
  have e2 : ev (callF prim fs (n - 1)) (.lc (.one 2) [2] (.var 0) .nil (.call "is_within" (.cons (.var 2) (.cons (.int 0) (.cons (.op .sub (.var 1) (.int 1)) .nil))))) [some (.tup (l.map natD)), some (.int m), none, none] = .ret (.lst (l.map fun a : Nat => .bl (decide ((0 : Int) ≤ a ∧ (a : Int) ≤ m - 1)))) :=
    ev_lcM natD l _ (by simp) fun a ha => by simp [e1]
  have e3 : ev (callF prim fs (n - 1)) (.lc (.many [2, 3]) [2, 3] (.zip (.var 0) (.sl (.var 0) (.int 1) .nil)) .nil (.op .lt (.var 2) (.var 3))) [some (.tup (l.map natD)), some (.int m), none, none] = .ret (.lst ((l.zip l.tail).map fun p => .bl (decide (p.1 < p.2)))) :=
    ev_lcM (fun p : Nat × Nat => D.tup [natD p.1, natD p.2]) (l.zip l.tail) _ (by simp) fun a ha => by simp
  simp [e2, e3]
  exact ⟨fun x hx => by have := h.lt x hx; omega, fun a b hab => (pairwise_zip (r := (· < ·)) (fun a b c => Nat.lt_trans)).mp h.asc (a, b) hab⟩
theorem p_is_lot_of (K : K_is_lot_of fs) (hn : 4 ≤ n) {c : Cr} {l : List Nat} (h : IsLot c.n l) : callF prim fs n "is_lot_of" [crD c, .tup (l.map natD)] = .ret (.bl true) := by
  rw [K.1.call (by omega) rfl [some (crD c), some (.tup (l.map natD))] rfl]
  unfold b_is_lot_of
  simp [p_is_lot K.2 (show 3 ≤ n - 1 by omega) h]
theorem p_check_lot (K : K_check_lot fs) (hn : 5 ≤ n) {c : Cr} {l : List Nat} (h : IsLot c.n l) : callF prim fs n "check_lot" [crD c, .tup (l.map natD)] = .ret .non := by
  rw [K.1.call (by omega) rfl [some (crD c), some (.tup (l.map natD))] rfl]
  unfold b_check_lot
  have e := p_is_lot_of (prim := prim) K.2 (show 4 ≤ n - 1 by omega) h
  simp [e]
theorem p_is_person (K : K_is_person fs) (hn : 3 ≤ n) {c : Cr} {p : Nat} (h : p < c.n) : callF prim fs n "is_person" [crD c, .int (p : Nat)] = .ret (.bl true) := by
  rw [K.1.call (by omega) rfl [some (crD c), some (.int p)] rfl]
  unfold b_is_person
  simp [p_is_within K.2 (show 2 ≤ n - 1 by omega)]
  omega
theorem p_check_person (K : K_check_person fs) (hn : 4 ≤ n) {c : Cr} {p : Nat} (h : p < c.n) : callF prim fs n "check_person" [crD c, .int (p : Nat)] = .ret .non := by
  rw [K.1.call (by omega) rfl [some (crD c), some (.int p)] rfl]
  unfold b_check_person
  have e := p_is_person (prim := prim) K.2 (show 3 ≤ n - 1 by omega) h
  simp [e]
theorem p_is_tie (K : K_is_tie fs) (hn : 3 ≤ n) {m a b : Nat} (h : a < b ∧ b < m) : callF prim fs n "is_tie" [.int (m : Nat), .tup [.int (a : Nat), .int (b : Nat)]] = .ret (.bl true) := by
  rw [K.1.call (by omega) rfl [some (.int m), some (.tup [.int a, .int b]), none] rfl]
  unfold b_is_tie
  have e1 : ∀ i lo hi, callF prim fs (n - 1) "is_within" [.int i, .int lo, .int hi] = .ret (.bl (decide (lo ≤ i ∧ i ≤ hi))) := p_is_within K.2.2 (by omega)
  have e2 : ev (callF prim fs (n - 1)) (.lc (.one 2) [2] (.var 1) .nil (.call "is_within" (.cons (.var 2) (.cons (.int 0) (.cons (.op .sub (.var 0) (.int 1)) .nil))))) [some (.int m), some (.tup [.int a, .int b]), none] = .ret (.lst ([a, b].map fun a : Nat => .bl (decide ((0 : Int) ≤ a ∧ (a : Int) ≤ m - 1)))) :=
    ev_lcM natD [a, b] _ (by simp) fun a ha => by simp [e1]
  have i0 : ixD (.tup [.int a, .int b]) (.int 0) = .ret (.int a) := rfl
  have i1 : ixD (.tup [.int a, .int b]) (.int 1) = .ret (.int b) := rfl
  simp [p_is_tuple K.2.1 (show 1 ≤ n - 1 by omega), e2, i0, i1]
  omega
def ltB (t u : Nat × Nat) : Bool := lexI [(t.1 : Int), t.2] [(u.1 : Int), u.2]
theorem ltB_iff {t u : Nat × Nat} : ltB t u = true ↔ ltP t u := by
  unfold ltB ltP lexI
  by_cases h : (t.1 : Int) = u.1
  · rw [if_pos h]
    unfold lexI
    by_cases h2 : (t.2 : Int) = u.2
    · rw [if_pos h2]
      unfold lexI
      simp
      omega
    · rw [if_neg h2, decide_eq_true_eq]
      omega
  · rw [if_neg h, decide_eq_true_eq]
    omega
@[simp] theorem ltD_tie (a b c d : Nat) : ltD (.tup [.int (a : Nat), .int (b : Nat)]) (.tup [.int (c : Nat), .int (d : Nat)]) = .ret (.bl (ltB (a, b) (c, d))) := rfl
theorem ltP_tr (a b c : Nat × Nat) : ltP a b → ltP b c → ltP a c := by
  unfold ltP
  omega
theorem p_are_ties (K : K_are_ties fs) (hn : 4 ≤ n) {m : Nat} {ts : List (Nat × Nat)} (h1 : ∀ t ∈ ts, t.1 < t.2 ∧ t.2 < m) (h2 : ts.Pairwise ltP) : callF prim fs n "are_ties" [.int (m : Nat), .tup (ts.map tieD)] = .ret (.bl true) := by
  rw [K.1.call (by omega) rfl [some (.int m), some (.tup (ts.map tieD)), none, none, none] rfl]
  unfold b_are_ties
  have e2 : ev (callF prim fs (n - 1)) (.lc (.one 4) [4] (.var 1) .nil (.call "is_tie" (.cons (.var 0) (.cons (.var 4) .nil)))) [some (.int m), some (.tup (ts.map tieD)), none, none, none] = .ret (.lst (ts.map fun _ => .bl true)) :=
    ev_lcM tieD ts _ (by simp) fun t ht => by simp [p_is_tie K.2 (show 3 ≤ n - 1 by omega) (h1 t ht)]
  have e3 : ev (callF prim fs (n - 1)) (.lc (.many [2, 3]) [2, 3] (.zip (.var 1) (.sl (.var 1) (.int 1) .nil)) .nil (.op .lt (.var 2) (.var 3))) [some (.int m), some (.tup (ts.map tieD)), none, none, none] = .ret (.lst ((ts.zip ts.tail).map fun p => .bl (ltB p.1 p.2))) :=
    ev_lcM (fun p : (Nat × Nat) × (Nat × Nat) => D.tup [tieD p.1, tieD p.2]) (ts.zip ts.tail) _ (by simp) fun a ha => by simp
  simp [e2, e3]
  exact fun a b c d hab => ltB_iff.mpr ((pairwise_zip ltP_tr).mp h2 ((a, b), (c, d)) hab)
theorem p_are_needs (K : K_are_needs fs) (hn : 3 ≤ n) {m : Nat} {ns : List Nat} (h1 : ns.length = m) (h2 : ∀ k ∈ ns, k ≤ 9) : callF prim fs n "are_needs" [.int (m : Nat), .tup (ns.map natD)] = .ret (.bl true) := by
  rw [K.1.call (by omega) rfl [some (.int m), some (.tup (ns.map natD)), none] rfl]
  unfold b_are_needs
  have e1 : ∀ i lo hi, callF prim fs (n - 1) "is_within" [.int i, .int lo, .int hi] = .ret (.bl (decide (lo ≤ i ∧ i ≤ hi))) := p_is_within K.2.2 (by omega)
  have e2 : ev (callF prim fs (n - 1)) (.lc (.one 2) [2] (.var 1) .nil (.call "is_within" (.cons (.var 2) (.cons (.int 0) (.cons (.gint "MOST_NEED" 9) .nil))))) [some (.int m), some (.tup (ns.map natD)), none] = .ret (.lst (ns.map fun a : Nat => .bl (decide ((0 : Int) ≤ a ∧ (a : Int) ≤ 9)))) :=
    ev_lcM natD ns _ (by simp) fun t ht => by simp [e1]
  simp [p_is_tuple K.2.1 (show 1 ≤ n - 1 by omega), e2, h1]
  exact fun x hx => by have := h2 x hx; omega
end
/-! ### crowds -/
abbrev K_core (fs : List DefS) : Prop := K_are_ties fs ∧ K_are_needs fs
theorem tiesOf_code : ∀ ts : List (Nat × Nat), tiesOf (ts.map tieD) = some ts
  | [] => rfl
  | t :: ts => by
    show (if (0 : Int) ≤ (t.1 : Nat) ∧ (0 : Int) ≤ (t.2 : Nat) then (tiesOf (ts.map tieD)).map ((((t.1 : Nat) : Int).toNat, ((t.2 : Nat) : Int).toNat) :: ·) else none) = _
    rw [if_pos (by omega), tiesOf_code ts]
    rfl
theorem natsOf_code : ∀ ts : List Nat, natsOf (ts.map natD) = some ts
  | [] => rfl
  | t :: ts => by
    show (if (0 : Int) ≤ (t : Nat) then (natsOf (ts.map natD)).map (((t : Nat) : Int).toNat :: ·) else none) = _
    rw [if_pos (by omega), natsOf_code ts]
    rfl
theorem crowd_ok {fs0 : List DefS} (K : K_core fs0) {c : Cr} (h : c.Ok) : crowdT (callF noF fs0 4) [.int c.n, .tup (c.ts.map tieD), .tup (c.ns.map natD)] = .ret (crD c) := by
  have e1 := p_is_within (prim := noF) (n := 4) K.1.2.2.2 (by omega) (c.n : Int) 1 9
  have e2 := p_are_ties (prim := noF) (n := 4) K.1 (by omega) h.tie h.srt
  have e3 := p_are_needs (prim := noF) (n := 4) K.2 (by omega) h.nl h.k9
  have h1 := h.n1
  have h9 := h.n9
  unfold crowdT sIf1 sIf2 sIf3
  simp [e1, e2, e3, nxT, show (1 : Int) ≤ c.n ∧ (c.n : Int) ≤ 9 from by omega]
  unfold decC
  simp [tiesOf_code, natsOf_code]
  rfl
theorem crB_ok {c : Cr} (h : crB c = true) : c.Ok := by
  unfold crB at h
  simp only [Bool.and_eq_true, decide_eq_true_eq, List.all_eq_true] at h
  obtain ⟨h1, h2, h3, h4, h5, h6⟩ := h
  refine ⟨h1, h2, h3, (pairwise_zip ltP_tr).mpr fun p hp => ?_, h5, h6⟩
  have := h4 p hp
  unfold ltPB at this
  unfold ltP
  simpa using this
/-! ### who is beside -/
theorem addRow_get (rows : List (List Nat)) (a b p : Nat) (hp : p < rows.length) : (addRow rows a b).getD p [] = if a = p then rows.getD p [] ++ [b] else rows.getD p [] := by
  unfold addRow
  rw [List.getD_eq_getElem?_getD, List.getElem?_set]
  by_cases h : a = p
  · subst h
    simp [hp]
  · rw [if_neg h, if_neg h, List.getD_eq_getElem?_getD]
theorem fill_len : ∀ (ts : List (Nat × Nat)) (rows : List (List Nat)), (fill rows ts).length = rows.length
  | [], _ => rfl
  | t :: ts, rows => by
    show (fill (addRow (addRow rows t.1 t.2) t.2 t.1) ts).length = _
    rw [fill_len, addRow_len, addRow_len]
def oth (p : Nat) (t : Nat × Nat) : List Nat := (if t.1 = p then [t.2] else []) ++ (if t.2 = p then [t.1] else [])
theorem fill_get {p : Nat} : ∀ (ts : List (Nat × Nat)) (rows : List (List Nat)), p < rows.length → (fill rows ts).getD p [] = rows.getD p [] ++ ts.flatMap (oth p)
  | [], rows, _ => by simp [fill]
  | t :: ts, rows, hp => by
    show (fill (addRow (addRow rows t.1 t.2) t.2 t.1) ts).getD p [] = _
    rw [fill_get ts _ (by rw [addRow_len, addRow_len]; exact hp), addRow_get _ _ _ _ (by rw [addRow_len]; exact hp), addRow_get _ _ _ _ hp, List.flatMap_cons]
    unfold oth
    by_cases h1 : t.1 = p <;> by_cases h2 : t.2 = p <;> simp [h1, h2]
theorem mem_oth {ts : List (Nat × Nat)} {p x : Nat} (h : ∀ t ∈ ts, t.1 < t.2) : x ∈ ts.flatMap (oth p) ↔ adj ts x p = true := by
  unfold adj oth
  rw [List.mem_flatMap, decide_eq_true_eq]
  constructor
  · rintro ⟨t, ht, hx⟩
    have h1 := h t ht
    rcases List.mem_append.mp hx with hx | hx
    · split at hx
      · rename_i e
        have e2 := List.mem_singleton.mp hx
        have : (min x p, max x p) = t := by
          ext <;> simp <;> omega
        rw [this]; exact ht
      · cases hx
    · split at hx
      · rename_i e
        have e2 := List.mem_singleton.mp hx
        have : (min x p, max x p) = t := by
          ext <;> simp <;> omega
        rw [this]; exact ht
      · cases hx
  · intro ht
    have h1 := h _ ht
    refine ⟨_, ht, ?_⟩
    simp only at h1 ⊢
    by_cases hlt : x < p
    · have e1 : min x p = x := by omega
      have e2 : max x p = p := by omega
      rw [e1, e2]
      simp
    · have e1 : min x p = p := by omega
      have e2 : max x p = x := by omega
      rw [e1, e2]
      simp
theorem nodup_oth {p : Nat} : ∀ {ts : List (Nat × Nat)}, (∀ t ∈ ts, t.1 < t.2) → ts.Nodup → (ts.flatMap (oth p)).Nodup
  | [], _, _ => by simp
  | t :: ts, h, hn => by
    have hn' := List.nodup_cons.mp hn
    have h' : ∀ t ∈ ts, t.1 < t.2 := fun u hu => h u (.tail _ hu)
    have ih := nodup_oth (p := p) h' hn'.2
    have h1 := h t (.head _)
    rw [List.flatMap_cons]
    have key : ∀ x ∈ oth p t, x ∉ ts.flatMap (oth p) := fun x hx hx2 => by
      have a1 := (mem_oth (ts := [t]) (p := p) (x := x) (fun u hu => by rw [List.mem_singleton.mp hu]; exact h1)).mp (by simpa using hx)
      have a2 := (mem_oth h').mp hx2
      unfold adj at a1 a2
      rw [decide_eq_true_eq] at a1 a2
      exact hn'.1 (List.mem_singleton.mp a1 ▸ a2)
    refine List.nodup_append.mpr ⟨?_, ih, fun a ha b hb e => key a ha (e ▸ hb)⟩
    unfold oth
    by_cases e1 : t.1 = p <;> by_cases e2 : t.2 = p <;> simp [e1, e2]
    omega
theorem le_nat (a b : Nat) : D.le (natD a) (natD b) = leN a b := by
  show ((compare (a : Int) (b : Int)) != .gt) = decide (a ≤ b)
  by_cases h : a ≤ b
  · rw [decide_eq_true h]
    have : compare (a : Int) (b : Int) ≠ .gt := by
      rw [Ne, Int.compare_eq_gt]
      omega
    simpa using this
  · rw [decide_eq_false h]
    have : compare (a : Int) (b : Int) = .gt := by
      rw [Int.compare_eq_gt]
      omega
    rw [this]
    rfl
theorem insD_map {α : Type} {f : α → D} {le : α → α → Bool} (h : ∀ a b, D.le (f a) (f b) = le a b) (x : α) : ∀ l : List α, insD (f x) (l.map f) = (insG le x l).map f
  | [] => rfl
  | y :: r => by
    show (if D.le (f x) (f y) = true then _ else _) = _
    unfold insG
    rw [h, insD_map h x r]
    split <;> rfl
theorem sortD_map {α : Type} {f : α → D} {le : α → α → Bool} (h : ∀ a b, D.le (f a) (f b) = le a b) : ∀ l : List α, sortD (l.map f) = (sortG le l).map f
  | [] => rfl
  | x :: r => by
    show insD (f x) (sortD (r.map f)) = (insG le x (sortG le r)).map f
    rw [sortD_map h r, insD_map h]
theorem sortD_nat (l : List Nat) : sortD (l.map natD) = (sortN l).map natD := sortD_map le_nat l
theorem pairwise_ne {ts : List (Nat × Nat)} (h : ts.Pairwise ltP) : ts.Nodup := List.Pairwise.imp (fun h e => by subst e; unfold ltP at h; omega) h
def rowD (c : Cr) (p : Nat) : D := .tup ((nbs c p).map natD)
theorem bes_ok {c : Cr} (h : c.Ok) : besD c.n c.ts = .tup ((List.range c.n).map (rowD c)) := by
  unfold besD
  congr 1
  have hl : (fill (List.replicate c.n []) c.ts).length = c.n := by rw [fill_len, List.length_replicate]
  refine List.ext_getElem? fun p => ?_
  rw [List.getElem?_map, List.getElem?_map]
  by_cases hp : p < c.n
  · rw [List.getElem?_eq_getElem (show p < (fill (List.replicate c.n []) c.ts).length by omega), List.getElem?_eq_getElem (show p < (List.range c.n).length by simpa using hp)]
    have e1 : (fill (List.replicate c.n []) c.ts)[p] = c.ts.flatMap (oth p) := by
      have := fill_get (p := p) c.ts (List.replicate c.n []) (by simpa using hp)
      rw [List.getD_eq_getElem?_getD, List.getElem?_eq_getElem (by omega), List.getD_eq_getElem?_getD] at this
      simpa [hp] using this
    have h1 : ∀ t ∈ c.ts, t.1 < t.2 := fun t ht => (h.tie t ht).1
    have e2 : sortN (c.ts.flatMap (oth p)) = nbs c p := sortN_lotOf (nodup_oth h1 (pairwise_ne h.srt)) fun x => by
      rw [mem_oth h1, adj_comm]
      constructor
      · intro e
        refine ⟨?_, e⟩
        have e' := e
        unfold adj at e'
        have := h.tie _ (of_decide_eq_true e')
        simp only at this
        omega
      · exact fun e => e.2
    rw [e1]
    simp [sortD_nat, e2, rowD]
  · rw [List.getElem?_eq_none (by omega), List.getElem?_eq_none (by simpa using hp)]
    rfl
theorem ties_len {c : Cr} (h : c.Ok) : c.ts.length ≤ 81 := by
  have := List.Nodup.length_le_of_subset (pairwise_ne h.srt) (l₂ := (List.range 9).flatMap fun a => (List.range 9).map fun b => (a, b)) fun t ht => by
    have h1 := h.tie t ht
    have h2 := h.n9
    rw [List.mem_flatMap]
    refine ⟨t.1, List.mem_range.mpr (by omega), List.mem_map.mpr ⟨t.2, List.mem_range.mpr (by omega), rfl⟩⟩
  exact this
theorem besOk_ok {c : Cr} (h : c.Ok) : besOk c.n c.ts = true := by
  have := h.n9
  unfold besOk
  rw [Bool.and_eq_true, Bool.and_eq_true, List.all_eq_true, decide_eq_true_eq, decide_eq_true_eq]
  have hl := ties_len h
  refine ⟨by omega, by omega, fun t ht => ?_⟩
  have := h.tie t ht
  rw [Bool.and_eq_true, decide_eq_true_eq, decide_eq_true_eq]
  omega
theorem ok_crB {c : Cr} (h : c.Ok) : crB c = true := by
  unfold crB
  simp only [Bool.and_eq_true, decide_eq_true_eq, List.all_eq_true]
  refine ⟨h.n1, h.n9, h.tie, fun p hp => ?_, h.nl, h.k9⟩
  have := (pairwise_zip ltP_tr).mp h.srt p hp
  unfold ltP at this
  unfold ltPB
  simpa using this
def lotsT (f : Cr → List (List Nat)) : List D → T D
  | [.crowd n ts ns] => if crB ⟨n, ts, ns⟩ = true then .ret (.tup ((f ⟨n, ts, ns⟩).map lotD)) else .bad
  | _ => .bad
theorem lotsT_val (f : Cr → List (List Nat)) {c : Cr} (h : c.Ok) : lotsT f [crD c] = .ret (.tup ((f c).map lotD)) := if_pos (ok_crB h)
/-- what a crowd keeps -/
def cacheT (n : Nat) (ts : List (Nat × Nat)) (ns : List Nat) (s : Str) : Option D :=
  if s = "beside" then some (besD n ts) else if s = "forts" then some (.tup ((fortsOf ⟨n, ts, ns⟩).map lotD)) else if s = "least" then some (.tup ((leastIn ⟨n, ts, ns⟩).map lotD)) else none
/-- what is not told by a text of mine -/
def primOf (ct : List D → T D) : Fns := fun f => if f = "_law_hand" then handT else if f = "_law_draw" then drawT else if f = "besides" then besT else if f = "Crowd" then ct
  else if f = "forts_of" then lotsT fortsOf else if f = "least_in" then lotsT leastIn else fun _ => .bad
structure PrimH (prim : Fns) : Prop where
  crowd : ∀ c : Cr, c.Ok → prim "Crowd" [.int c.n, .tup (c.ts.map tieD), .tup (c.ns.map natD)] = .ret (crD c)
  bes : prim "besides" = besT
  hand : prim "_law_hand" = handT
  draw : prim "_law_draw" = drawT
  forts : prim "forts_of" = lotsT fortsOf
  least : prim "least_in" = lotsT leastIn
theorem primOf_ok {fs0 : List DefS} (K : K_core fs0) : PrimH (primOf (crowdT (callF noF fs0 4))) := by
  refine ⟨fun c h => ?_, by simp [primOf], by simp [primOf], by simp [primOf], by simp [primOf], by simp [primOf]⟩
  rw [show primOf (crowdT (callF noF fs0 4)) "Crowd" = crowdT (callF noF fs0 4) by simp [primOf]]
  exact crowd_ok K h
abbrev K_crowd (fs : List DefS) : Prop := NoB fs "Crowd"
abbrev K_besides (fs : List DefS) : Prop := NoB fs "besides"
abbrev K_forts_of (fs : List DefS) : Prop := NoB fs "forts_of"
abbrev K_least_in (fs : List DefS) : Prop := NoB fs "least_in"
section
variable {prim : Fns} {fs : List DefS} {n : Nat}
theorem p_crowd (P : PrimH prim) (K : K_crowd fs) {c : Cr} (h : c.Ok) : callF prim fs n "Crowd" [.int c.n, .tup (c.ts.map tieD), .tup (c.ns.map natD)] = .ret (crD c) := by
  rw [K.call, P.crowd c h]
theorem p_besides (P : PrimH prim) (K : K_besides fs) {c : Cr} (h : c.Ok) : callF prim fs n "besides" [crD c] = .ret (.tup ((List.range c.n).map (rowD c))) := by
  rw [K.call, P.bes]
  show (if besOk c.n c.ts = true then T.ret (besD c.n c.ts) else T.bad) = _
  rw [if_pos (besOk_ok h), bes_ok h]
theorem p_forts_of (P : PrimH prim) (K : K_forts_of fs) {c : Cr} (h : c.Ok) : callF prim fs n "forts_of" [crD c] = .ret (.tup ((fortsOf c).map lotD)) := by
  rw [K.call, P.forts, lotsT_val fortsOf h]
theorem p_least_in (P : PrimH prim) (K : K_least_in fs) {c : Cr} (h : c.Ok) : callF prim fs n "least_in" [crD c] = .ret (.tup ((leastIn c).map lotD)) := by
  rw [K.call, P.least, lotsT_val leastIn h]
/-! ### taking up -/
/- can_take: 0 crowd, 1 lot, 2 person, 3 one, -/
def b_can_take : S :=
 (.cons (.ret (.op .ge (.blt .len (.cons (.lc (.one 3) [3] (.ix (.call "besides" (.cons (.var 0) .nil)) (.var 2)) (.op .isin (.var 3) (.var 1)) (.var 3)) .nil)) (.ix (.attr (.var 0) "needs") (.var 2))))
 .nil)

/- can_in: 0 crowd, 1 lot, 2 one, -/
def b_can_in : S :=
 (.cons (.ret (.blt .tuple (.cons (.lc (.one 2) [2] (.rng1 (.attr (.var 0) "persons")) (.and (.op .notin (.var 2) (.var 1)) (.call "can_take" (.cons (.var 0) (.cons (.var 1) (.cons (.var 2) .nil))))) (.var 2)) .nil)))
 .nil)

abbrev K_can_take (fs : List DefS) : Prop := HasB fs "can_take" 3 4 b_can_take ∧ K_besides fs
abbrev K_can_in (fs : List DefS) : Prop := HasB fs "can_in" 2 3 b_can_in ∧ K_can_take fs
theorem p_can_take (P : PrimH prim) (K : K_can_take fs) (hn : 1 ≤ n) {c : Cr} (h : c.Ok) {p : Nat} (hp : p < c.n) {S : List Nat} {ld : D} (hl : ld = .tup (S.map natD) ∨ ld = .lst (S.map natD)) : callF prim fs n "can_take" [crD c, ld, .int (p : Nat)] = .ret (.bl (decide (need c p ≤ cnt c S p))) := by
  rw [K.1.call hn rfl [some (crD c), some ld, some (.int p), none] rfl]
  unfold b_can_take
  have e1 := p_besides (n := n - 1) P K.2 h
  have e2 : ixD (.tup ((List.range c.n).map (rowD c))) (.int (p : Nat)) = .ret (.tup ((nbs c p).map natD)) := by
    rw [ix_tup (by simpa using hp)]
    simp [rowD]
  have e3 : ev (callF prim fs (n - 1)) (.lc (.one 3) [3] (.ix (.call "besides" (.cons (.var 0) .nil)) (.var 2)) (.op .isin (.var 3) (.var 1)) (.var 3)) [some (crD c), some ld, some (.int p), none] = .ret (.lst (((nbs c p).filter fun b => decide (b ∈ S)).map natD)) := by
    refine ev_lcF natD (nbs c p) _ _ ?_ fun a ha => ?_
    · simp [e1, e2]
    · rcases hl with rfl | rfl <;> simp
  have e4 := ix_nat (l := c.ns) (k := p) (by rw [h.nl]; exact hp)
  simp [e3, e4, need, cnt]
end
end Fm


/-! FpB: what is taken. -/
namespace Fm
open PySem PySem.Spec PyProof.Rows L2
/- order_in: 0 crowd, 1 first, 2 more, 3 has, 4 found, -/
def b_order_in : S :=
 (.cons (.par [3, 4] (.cons (.blt .list (.cons (.var 1) .nil)) (.cons (.lst .nil) .nil)))
 (.cons (.set (.one 2) (.call "can_in" (.cons (.var 0) (.cons (.var 3) .nil))))
 (.cons (.while_ (.op .gt (.blt .len (.cons (.var 2) .nil)) (.int 0))
 (.cons (.app 4 (.ix (.var 2) (.int 0)))
 (.cons (.app 3 (.ix (.var 2) (.int 0)))
 (.cons (.set (.one 2) (.call "can_in" (.cons (.var 0) (.cons (.var 3) .nil))))
 .nil))))
 (.cons (.ret (.blt .tuple (.cons (.var 4) .nil)))
 .nil))))

/- taken_in: 0 crowd, 1 first, -/
def b_taken_in : S :=
 (.cons (.ret (.blt .tuple (.cons (.blt .sorted (.cons (.op .add (.var 1) (.call "order_in" (.cons (.var 0) (.cons (.var 1) .nil)))) .nil)) .nil)))
 .nil)

/- taken: 0 crowd, 1 first, -/
def b_taken : S :=
 (.cons (.expr (.call "check_lot" (.cons (.var 0) (.cons (.var 1) .nil))))
 (.cons (.ret (.call "taken_in" (.cons (.var 0) (.cons (.var 1) .nil))))
 .nil))

abbrev K_order_in (fs : List DefS) : Prop := HasB fs "order_in" 2 5 b_order_in ∧ K_can_in fs
abbrev K_taken_in (fs : List DefS) : Prop := HasB fs "taken_in" 2 2 b_taken_in ∧ K_order_in fs
abbrev K_taken (fs : List DefS) : Prop := HasB fs "taken" 2 2 b_taken ∧ K_check_lot fs ∧ K_taken_in fs
theorem maxL_eq : maxL = 1000000 := rfl
@[simp] theorem sorted_tup (l : List Nat) : bltin .sorted [.tup (l.map natD)] = if l.length ≤ maxL then .ret (.lst ((sortN l).map natD)) else .bad := by
  show (if (canSort (l.map natD) && decide ((l.map natD).length ≤ maxL)) = true then T.ret (D.lst (sortD (l.map natD))) else T.bad) = _
  rw [canSort_nats, Bool.true_and, sortD_nat, List.length_map]
  simp
@[simp] theorem sorted_lst (l : List Nat) : bltin .sorted [.lst (l.map natD)] = if l.length ≤ maxL then .ret (.lst ((sortN l).map natD)) else .bad := sorted_tup l
@[simp] theorem sorted_cell (l : List Nat) : bltin .sorted [.cell (l.map natD)] = if l.length ≤ maxL then .ret (.lst ((sortN l).map natD)) else .bad := sorted_tup l
section
variable {prim : Fns} {fs : List DefS} {n : Nat}
theorem p_can_in (P : PrimH prim) (K : K_can_in fs) (hn : 2 ≤ n) {c : Cr} (h : c.Ok) {S : List Nat} {ld : D} (hl : ld = .tup (S.map natD) ∨ ld = .lst (S.map natD)) : callF prim fs n "can_in" [crD c, ld] = .ret (.tup ((canIn c S).map natD)) := by
  rw [K.1.call (by omega) rfl [some (crD c), some ld, none] rfl]
  unfold b_can_in
  have e3 : ev (callF prim fs (n - 1)) (.lc (.one 2) [2] (.rng1 (.attr (.var 0) "persons")) (.and (.op .notin (.var 2) (.var 1)) (.call "can_take" (.cons (.var 0) (.cons (.var 1) (.cons (.var 2) .nil))))) (.var 2)) [some (crD c), some ld, none] = .ret (.lst (((List.range c.n).filter fun p => !decide (p ∈ S) && decide (need c p ≤ cnt c S p)).map natD)) := by
    refine ev_lcF natD (List.range c.n) _ _ ?_ fun a ha => ?_
    · simp [rng1_nat (show c.n ≤ 1000 by have := h.n9; omega)]
    · have e1 := p_can_take (n := n - 1) (S := S) (ld := ld) P K.2 (by omega) h (List.mem_range.mp ha) hl
      rcases hl with rfl | rfl <;> simp [e1]
  simp [e3, canIn, lotOf]
theorem p_order_in (P : PrimH prim) (K : K_order_in fs) (hn : 3 ≤ n) {c : Cr} (h : c.Ok) {f : List Nat} (hf : f.Nodup) (hl : ∀ x ∈ f, x < c.n) : callF prim fs n "order_in" [crD c, .tup (f.map natD)] = .ret (.tup ((ord c f).map natD)) := by
  rw [K.1.call (by omega) rfl [some (crD c), some (.tup (f.map natD)), none, none, none] rfl]
  unfold b_order_in
  have ec : ∀ S, callF prim fs (n - 1) "can_in" [crD c, .lst (S.map natD)] = .ret (.tup ((canIn c S).map natD)) := fun S => p_can_in P K.2 (by omega) h (.inr rfl)
  have h9 := h.n9
  obtain ⟨r, er, o, eo⟩ := exec_while_inv (F := callF prim fs (n - 1)) (c := .op .gt (.blt .len (.cons (.var 2) .nil)) (.int 0)) (b := .cons (.app 4 (.ix (.var 2) (.int 0))) (.cons (.app 3 (.ix (.var 2) (.int 0))) (.cons (.set (.one 2) (.call "can_in" (.cons (.var 0) (.cons (.var 3) .nil)))) .nil)))
    (fun m env => ∃ o k, env = [some (crD c), some (.tup (f.map natD)), some (.tup ((canIn c (f ++ o)).map natD)), some (.cell ((f ++ o).map natD)), some (.cell (o.map natD))] ∧ Far c f (f ++ o) ∧ m = c.n - (f ++ o).length ∧ o ++ ordIn c k (f ++ o) = ord c f ∧ o.length + k = c.n + 1)
    (fun r => ∃ more, r = .nx [some (crD c), some (.tup (f.map natD)), some more, some (.cell ((f ++ ord c f).map natD)), some (.cell ((ord c f).map natD))])
    (fun m env ⟨o, k, he, hf, hm, ho, hk⟩ => by
      subst he
      have hlen := hf.len
      rw [List.length_append] at hlen hm
      cases ecn : canIn c (f ++ o) with
      | nil =>
        left
        refine ⟨by simp, .tup [], ?_⟩
        have : ordIn c k (f ++ o) = [] := by
          cases k with
          | zero => rfl
          | succ k => unfold ordIn; rw [ecn]
        rw [this, List.append_nil] at ho
        rw [ho]
        rfl
      | cons p r =>
        right
        have hp : p ∈ canIn c (f ++ o) := by rw [ecn]; exact .head _
        have hf2 := hf.put hp
        rw [List.append_assoc] at hf2
        have hlen2 := hf2.len
        simp only [List.length_append, List.length_cons, List.length_nil] at hlen2
        refine ⟨by simp, ?_⟩
        have i0 : ixD (.tup ((p :: r).map natD)) (.int 0) = .ret (.int (p : Nat)) := ix0_tup _ _
        have ec3 := ec (f ++ (o ++ [p]))
        cases k with
        | zero => omega
        | succ k =>
          unfold ordIn at ho
          rw [ecn] at ho
          have l1 : o.length < maxL := by rw [maxL_eq]; omega
          have l2 : f.length + o.length < maxL := by rw [maxL_eq]; omega
          simp at ec3
          refine ⟨_, by simp [ec3, l1, l2]; rfl, ?_⟩
          exact ⟨c.n - (f.length + (o.length + 1)), by omega, o ++ [p], k, by simp, hf2, by simp, by rw [List.append_assoc, ← ho, ← List.append_assoc f]; rfl, by simp; omega⟩)
    (c.n - f.length) [some (crD c), some (.tup (f.map natD)), some (.tup ((canIn c f).map natD)), some (.cell (f.map natD)), some (.cell [])] ⟨[], c.n + 1, by simp, by simpa using Far.start hf hl, by simp, by simp [ord], by simp⟩ (by omega)
  have e5 := ec f
  subst eo
  simp [e5, E.fresh, mkLst, er]
theorem ord_len {c : Cr} {f : List Nat} (hf : f.Nodup) (hl : ∀ x ∈ f, x < c.n) : f.length + (ord c f).length ≤ c.n := by
  have := (ord_far hf hl).1.len
  rwa [List.length_append] at this
theorem p_taken_in (P : PrimH prim) (K : K_taken_in fs) (hn : 4 ≤ n) {c : Cr} (h : c.Ok) {f : List Nat} (hf : f.Nodup) (hl : ∀ x ∈ f, x < c.n) : callF prim fs n "taken_in" [crD c, .tup (f.map natD)] = .ret (.tup ((tk c f).map natD)) := by
  rw [K.1.call (by omega) rfl [some (crD c), some (.tup (f.map natD))] rfl]
  unfold b_taken_in
  have e1 := p_order_in (n := n - 1) P K.2 (by omega) h hf hl
  have e2 := ord_len hf hl
  have e3 := h.n9
  have l1 : f.length + (ord c f).length ≤ maxL := by rw [maxL_eq]; omega
  have e4 := sorted_tup (f ++ ord c f)
  simp [l1] at e4
  simp [e1, l1, e4, tk_ord hf hl]
theorem p_taken (P : PrimH prim) (K : K_taken fs) (hn : 6 ≤ n) {c : Cr} (h : c.Ok) {f : List Nat} (hf : IsLot c.n f) : callF prim fs n "taken" [crD c, .tup (f.map natD)] = .ret (.tup ((tk c f).map natD)) := by
  rw [K.1.call (by omega) rfl [some (crD c), some (.tup (f.map natD))] rfl]
  unfold b_taken
  have e1 := p_taken_in (n := n - 1) P K.2.2 (by omega) h hf.asc.nodup hf.lt
  have e2 := p_check_lot (prim := prim) (n := n - 1) K.2.1 (by omega) hf
  simp [e1, e2]
end
end Fm


/-! FpC: the first kind of law's own helpers: who is beside, what is taken, what is equal. -/
namespace Fm
open PySem PySem.Spec PyProof.Rows L2
/- _law_besides: 0 parts, 1 found, 2 person, 3 one, -/
def b__law_besides : S :=
 (.cons (.set (.one 1) (.lst .nil))
 (.cons (.for_ (.one 2) (.rng1 (.ix (.var 0) (.int 0)))
 (.cons (.app 1 (.lc (.one 3) [3] (.rng1 (.ix (.var 0) (.int 0))) (.op .isin (.tup (.cons (.blt .min2 (.cons (.var 3) (.cons (.var 2) .nil))) (.cons (.blt .max2 (.cons (.var 3) (.cons (.var 2) .nil))) .nil))) (.ix (.var 0) (.int 1))) (.var 3)))
 .nil))
 (.cons (.ret (.var 1))
 .nil)))

/- _law_can_take: 0 parts, 1 besides_v, 2 has, 3 found, 4 person, 5 one, -/
def b__law_can_take : S :=
 (.cons (.set (.one 3) (.lst .nil))
 (.cons (.for_ (.one 4) (.rng1 (.ix (.var 0) (.int 0)))
 (.cons (.ite (.and (.op .notin (.var 4) (.var 2)) (.op .ge (.blt .len (.cons (.lc (.one 5) [5] (.ix (.var 1) (.var 4)) (.op .isin (.var 5) (.var 2)) (.var 5)) .nil)) (.ix (.ix (.var 0) (.int 2)) (.var 4))))
 (.cons (.app 3 (.var 4))
 .nil)
 .nil)
 .nil))
 (.cons (.ret (.var 3))
 .nil)))

/- _law_taken: 0 parts, 1 first, 2 more, 3 besides_v, 4 has, -/
def b__law_taken : S :=
 (.cons (.par [3, 4] (.cons (.call "_law_besides" (.cons (.var 0) .nil)) (.cons (.blt .list (.cons (.var 1) .nil)) .nil)))
 (.cons (.set (.one 2) (.call "_law_can_take" (.cons (.var 0) (.cons (.var 3) (.cons (.var 4) .nil)))))
 (.cons (.while_ (.op .gt (.blt .len (.cons (.var 2) .nil)) (.int 0))
 (.cons (.ext 4 (.var 2))
 (.cons (.set (.one 2) (.call "_law_can_take" (.cons (.var 0) (.cons (.var 3) (.cons (.var 4) .nil)))))
 .nil)))
 (.cons (.ret (.blt .tuple (.cons (.blt .sorted (.cons (.var 4) .nil)) .nil)))
 .nil))))

/- _law_with_need: 0 parts, 1 person, 2 need, 3 needs, 4 one, 5 other, -/
def b__law_with_need : S :=
 (.cons (.set (.one 3) (.blt .tuple (.cons (.lc (.many [4, 5]) [4, 5] (.enum (.ix (.var 0) (.int 2))) .nil (.ite (.op .eq (.var 4) (.var 1)) (.var 2) (.var 5))) .nil)))
 (.cons (.ret (.tup (.cons (.ix (.var 0) (.int 0)) (.cons (.ix (.var 0) (.int 1)) (.cons (.var 3) .nil)))))
 .nil))

/- _law_made: 0 parts, -/
def b__law_made : S :=
 (.cons (.ret (.call "Crowd" (.cons (.ix (.var 0) (.int 0)) (.cons (.ix (.var 0) (.int 1)) (.cons (.ix (.var 0) (.int 2)) .nil)))))
 .nil)

abbrev K__law_besides (fs : List DefS) : Prop := HasB fs "_law_besides" 1 4 b__law_besides
abbrev K__law_can_take (fs : List DefS) : Prop := HasB fs "_law_can_take" 3 6 b__law_can_take
abbrev K__law_taken (fs : List DefS) : Prop := HasB fs "_law_taken" 2 5 b__law_taken ∧ K__law_besides fs ∧ K__law_can_take fs
abbrev K__law_made (fs : List DefS) : Prop := HasB fs "_law_made" 1 1 b__law_made ∧ K_crowd fs
def rowL (c : Cr) (p : Nat) : D := .lst ((nbs c p).map natD)
instance (c : Cr) : NoC (rowL c) := ⟨fun _ => rfl⟩
instance (c : Cr) : NoC (rowD c) := ⟨fun _ => rfl⟩
theorem range_split {n a : Nat} {r q : List Nat} (h : List.range n = q ++ a :: r) : q = List.range a ∧ a < n := by
  have h1 : (List.range n)[q.length]? = some a := by
    rw [h, List.getElem?_append_right (Nat.le_refl _), Nat.sub_self]
    rfl
  have hlt : q.length < n := by
    by_cases z : q.length < n
    · exact z
    · rw [List.getElem?_eq_none (by simpa using z)] at h1
      cases h1
  have h2 : a = q.length := by
    rw [List.getElem?_eq_getElem (by simpa using hlt)] at h1
    simpa using h1.symm
  refine ⟨?_, by omega⟩
  have h3 : q = (List.range n).take q.length := by
    rw [h, List.take_append_of_le_length (Nat.le_refl _), List.take_length]
  rw [h3, List.take_range, h2]
  congr 1
  omega
section
variable {prim : Fns} {fs : List DefS} {n : Nat}
theorem p__law_besides (K : K__law_besides fs) (hn : 1 ≤ n) {c : Cr} (hc : c.n ≤ 100) : callF prim fs n "_law_besides" [partsD c] = .ret (.cell ((List.range c.n).map (rowL c))) := by
  rw [K.call hn rfl [some (partsD c), none, none, none] rfl]
  unfold b__law_besides
  have er := rng1_nat (n := c.n) (by omega)
  obtain ⟨e, e1, x, y, q, hq, he⟩ := exec_for_nx (F := callF prim fs (n - 1)) (tg := .one 2) (it := .rng1 (.ix (.var 0) (.int 0))) (b := .cons (.app 1 (.lc (.one 3) [3] (.rng1 (.ix (.var 0) (.int 0))) (.op .isin (.tup (.cons (.blt .min2 (.cons (.var 3) (.cons (.var 2) .nil))) (.cons (.blt .max2 (.cons (.var 3) (.cons (.var 2) .nil))) .nil))) (.ix (.var 0) (.int 1))) (.var 3))) .nil)
    (env := [some (partsD c), some (.cell []), none, none]) natD (List.range c.n)
    (fun rest env => ∃ x y q, List.range c.n = q ++ rest ∧ env = [some (partsD c), some (.cell (q.map (rowL c))), x, y])
    (by simp [er]) rfl
    (fun a rest env _ hI => by
      obtain ⟨x, y, q, hq, rfl⟩ := hI
      have hlen : q.length ≤ c.n := by
        have := congrArg List.length hq
        simp at this
        omega
      have l1 : q.length < maxL := by rw [maxL_eq]; omega
      have e3 : ev (callF prim fs (n - 1)) (.lc (.one 3) [3] (.rng1 (.ix (.var 0) (.int 0))) (.op .isin (.tup (.cons (.blt .min2 (.cons (.var 3) (.cons (.var 2) .nil))) (.cons (.blt .max2 (.cons (.var 3) (.cons (.var 2) .nil))) .nil))) (.ix (.var 0) (.int 1))) (.var 3)) [some (partsD c), some (.cell (q.map (rowL c))), some (.int a), y] = .ret (.lst ((nbs c a).map natD)) := by
        refine ev_lcF natD (List.range c.n) (adj c.ts a) _ ?_ fun b hb => ?_
        · simp [er]
        · simp [mkTup, adj, Nat.min_comm, Nat.max_comm]
      exact ⟨_, by simp; rfl, _, by simp [e3, l1]; rfl, some (.int a), y, q ++ [a], by rw [hq]; simp, by simp [rowL]⟩)
    ⟨none, none, [], rfl, rfl⟩
  rw [List.append_nil] at hq
  subst hq he
  simp [mkLst, E.fresh, e1]
theorem need_eq {c : Cr} (hl : c.ns.length = c.n) {p : Nat} (hp : p < c.n) : ixD (.tup (c.ns.map natD)) (.int (p : Nat)) = .ret (.int (need c p : Nat)) := ix_nat (by rw [hl]; exact hp)
theorem p__law_can_take (K : K__law_can_take fs) (hn : 1 ≤ n) {c : Cr} (hc : c.n ≤ 100) (hl : c.ns.length = c.n) (S : List Nat) : callF prim fs n "_law_can_take" [partsD c, .lst ((List.range c.n).map (rowL c)), .lst (S.map natD)] = .ret (.cell ((canIn c S).map natD)) := by
  rw [K.call hn rfl [some (partsD c), some (.lst ((List.range c.n).map (rowL c))), some (.lst (S.map natD)), none, none, none] rfl]
  unfold b__law_can_take
  have er := rng1_nat (n := c.n) (by omega)
  obtain ⟨e, e1, x, y, q, hq, he⟩ := exec_for_nx (F := callF prim fs (n - 1)) (tg := .one 4) (it := .rng1 (.ix (.var 0) (.int 0)))
    (b := .cons (.ite (.and (.op .notin (.var 4) (.var 2)) (.op .ge (.blt .len (.cons (.lc (.one 5) [5] (.ix (.var 1) (.var 4)) (.op .isin (.var 5) (.var 2)) (.var 5)) .nil)) (.ix (.ix (.var 0) (.int 2)) (.var 4)))) (.cons (.app 3 (.var 4)) .nil) .nil) .nil)
    (env := [some (partsD c), some (.lst ((List.range c.n).map (rowL c))), some (.lst (S.map natD)), some (.cell []), none, none]) natD (List.range c.n)
    (fun rest env => ∃ x y q, List.range c.n = q ++ rest ∧ env = [some (partsD c), some (.lst ((List.range c.n).map (rowL c))), some (.lst (S.map natD)), some (.cell ((q.filter fun p => !decide (p ∈ S) && decide (need c p ≤ cnt c S p)).map natD)), x, y])
    (by simp [er]) rfl
    (fun a rest env hq hI => by
      obtain ⟨x, y, q, hq, rfl⟩ := hI
      have ha := (range_split hq).2
      have hlen : (q.filter fun p => !decide (p ∈ S) && decide (need c p ≤ cnt c S p)).length ≤ c.n := by
        have := congrArg List.length hq
        have h2 := List.length_filter_le (fun p => !decide (p ∈ S) && decide (need c p ≤ cnt c S p)) q
        simp at this
        omega
      have l1 : (q.filter fun p => !decide (p ∈ S) && decide (need c p ≤ cnt c S p)).length < maxL := by rw [maxL_eq]; omega
      have i1 : ixD (.lst ((List.range c.n).map (rowL c))) (.int (a : Nat)) = .ret (rowL c a) := by
        rw [ix_get (xs := (List.range c.n).map (rowL c)) rfl (fun _ e => by cases e) (by simpa using ha)]
        simp
      have e3 : ev (callF prim fs (n - 1)) (.lc (.one 5) [5] (.ix (.var 1) (.var 4)) (.op .isin (.var 5) (.var 2)) (.var 5)) [some (partsD c), some (.lst ((List.range c.n).map (rowL c))), some (.lst (S.map natD)), some (.cell ((q.filter fun p => !decide (p ∈ S) && decide (need c p ≤ cnt c S p)).map natD)), some (.int a), y] = .ret (.lst (((nbs c a).filter fun b => decide (b ∈ S)).map natD)) := by
        refine ev_lcF natD (nbs c a) _ _ ?_ fun b hb => ?_
        · simp [i1, rowL]
        · simp
      refine ⟨_, by simp; rfl, ?_⟩
      by_cases h1 : a ∈ S
      · exact ⟨_, by simp [h1]; rfl, some (.int a), y, q ++ [a], by rw [hq]; simp, by simp [h1]⟩
      · by_cases h2 : need c a ≤ cnt c S a
        · have h2' := h2
          unfold cnt at h2'
          refine ⟨_, by simp [h1, e3, need_eq hl ha, h2', l1]; rfl, some (.int a), y, q ++ [a], by rw [hq]; simp, by simp [h1, h2]⟩
        · have h2' := h2
          unfold cnt at h2'
          refine ⟨_, by simp [h1, e3, need_eq hl ha, h2', l1]; rfl, some (.int a), y, q ++ [a], by rw [hq]; simp, by simp [h1, h2]⟩)
    ⟨none, none, [], rfl, rfl⟩
  rw [List.append_nil] at hq
  subst hq he
  simp [mkLst, E.fresh, e1, canIn, lotOf]
theorem p__law_taken (K : K__law_taken fs) (hn : 2 ≤ n) {c : Cr} (hc : c.n ≤ 100) (hl : c.ns.length = c.n) {f : List Nat} (hf : f.Nodup) (hlt : ∀ x ∈ f, x < c.n) : callF prim fs n "_law_taken" [partsD c, .tup (f.map natD)] = .ret (.tup ((tk c f).map natD)) := by
  rw [K.1.call (by omega) rfl [some (partsD c), some (.tup (f.map natD)), none, none, none] rfl]
  unfold b__law_taken
  have e1 := p__law_besides (prim := prim) (n := n - 1) K.2.1 (by omega) hc
  have e2 := fun S => p__law_can_take (prim := prim) (n := n - 1) K.2.2 (by omega) hc hl S
  have l0 := (Far.start hf hlt).len
  obtain ⟨e, e3, S, hS, hS2, he⟩ := exec_while_nx (F := callF prim fs (n - 1)) (c := .op .gt (.blt .len (.cons (.var 2) .nil)) (.int 0)) (b := .cons (.ext 4 (.var 2)) (.cons (.set (.one 2) (.call "_law_can_take" (.cons (.var 0) (.cons (.var 3) (.cons (.var 4) .nil))))) .nil))
    (fun m env => ∃ S, env = [some (partsD c), some (.tup (f.map natD)), some (.lst ((canIn c S).map natD)), some (.lst ((List.range c.n).map (rowL c))), some (.cell (S.map natD))] ∧ Far c f S ∧ m = c.n - S.length)
    (fun env => ∃ S, Far c f S ∧ canIn c S = [] ∧ env = [some (partsD c), some (.tup (f.map natD)), some (.lst []), some (.lst ((List.range c.n).map (rowL c))), some (.cell (S.map natD))])
    (fun m env ⟨S, he, hS, hm⟩ => by
      subst he
      by_cases h0 : canIn c S = []
      · exact .inl ⟨by simp [h0], S, hS, h0, by rw [h0]; rfl⟩
      · right
        have h1 := hS.all
        have h2 := h1.len
        rw [List.length_append] at h2
        have h3 : 0 < (canIn c S).length := List.length_pos_iff.mpr h0
        have l1 : S.length + (canIn c S).length ≤ maxL := by rw [maxL_eq]; omega
        have e4 := e2 (S ++ canIn c S)
        rw [List.map_append] at e4
        exact ⟨by simp; omega, _, by simp [l1, e4]; rfl, c.n - (S ++ canIn c S).length, by rw [List.length_append]; omega, S ++ canIn c S, by simp, h1, rfl⟩)
    (c.n - f.length) [some (partsD c), some (.tup (f.map natD)), some (.lst ((canIn c f).map natD)), some (.lst ((List.range c.n).map (rowL c))), some (.cell (f.map natD))] ⟨f, rfl, Far.start hf hlt, rfl⟩ (by omega)
  subst he
  have l2 : S.length ≤ maxL := by have := hS.len; rw [maxL_eq]; omega
  simp [E.fresh, e1, e2, e3, hS.tk hS2, l2]
theorem p__law_made (P : PrimH prim) (K : K__law_made fs) (hn : 1 ≤ n) {c : Cr} (h : c.Ok) : callF prim fs n "_law_made" [partsD c] = .ret (crD c) := by
  rw [K.1.call hn rfl [some (partsD c)] rfl]
  unfold b__law_made
  simp [p_crowd P K.2 h]
end
end Fm


/-! FpD: the law's own look whether two things are the same. -/
namespace Fm
open PySem PySem.Spec PyProof.Rows L2
/- _law_is: 0 one, 1 other, 2 key, 3 mine, 4 yours, -/
def b__law_is : S :=
 (.cons (.ite (.or (.isi (.var 0) .bool) (.isi (.var 1) .bool))
 (.cons (.ret (.and (.isi (.var 0) .bool) (.and (.isi (.var 1) .bool) (.op .eq (.var 0) (.var 1)))))
 .nil)
 .nil)
 (.cons (.ite (.or (.isi (.var 0) .tuple) (.isi (.var 0) .list))
 (.cons (.ite (.or (.op .ne (.isi (.var 0) .tuple) (.isi (.var 1) .tuple)) (.op .ne (.isi (.var 0) .list) (.isi (.var 1) .list)))
 (.cons (.ret (.bl false))
 .nil)
 .nil)
 (.cons (.ret (.and (.op .eq (.blt .len (.cons (.var 0) .nil)) (.blt .len (.cons (.var 1) .nil))) (.blt .all (.cons (.lc (.many [3, 4]) [3, 4] (.zip (.var 0) (.var 1)) .nil (.call "_law_is" (.cons (.var 3) (.cons (.var 4) .nil)))) .nil))))
 .nil))
 .nil)
 (.cons (.ite (.isi (.var 0) .dict)
 (.cons (.ite (.or (.nt (.isi (.var 1) .dict)) (.op .ne (.blt .len (.cons (.var 0) .nil)) (.blt .len (.cons (.var 1) .nil))))
 (.cons (.ret (.bl false))
 .nil)
 .nil)
 (.cons (.ret (.blt .all (.cons (.lc (.one 2) [2] (.var 0) .nil (.and (.op .isin (.var 2) (.var 1)) (.call "_law_is" (.cons (.ix (.var 0) (.var 2)) (.cons (.ix (.var 1) (.var 2)) .nil))))) .nil)))
 .nil))
 .nil)
 (.cons (.ret (.and (.op .eq (.isi (.var 0) .int) (.isi (.var 1) .int)) (.op .eq (.var 0) (.var 1))))
 .nil))))

abbrev K__law_is (fs : List DefS) : Prop := HasB fs "_law_is" 2 5 b__law_is
def optD {α : Type} (f : α → D) : Option α → D
  | none => .non
  | some a => f a
@[simp] theorem optD_none {α : Type} (f : α → D) : optD f none = .non := rfl
@[simp] theorem optD_some {α : Type} (f : α → D) (a : α) : optD f (some a) = f a := rfl
theorem resT_flt {d : D} (h : d.flat = true) (h2 : d.isCell = false) (b : Bool) : resT b d = .ret d := by
  cases d with
  | cell xs => cases h2
  | _ =>
    unfold resT
    simp only [h, Bool.not_true, Bool.and_false]
    rfl
theorem unc_noc {d : D} (h2 : d.isCell = false) : d.unc = d := by cases d <;> first | rfl | cases h2
instance {α : Type} (f : α → D) [h : NoC f] : NoC (optD f) := ⟨fun a => by cases a <;> first | rfl | exact h.nc _⟩
instance {α : Type} (f : α → D) [h : Flt f] : Flt (optD f) := ⟨fun a => by cases a <;> first | rfl | exact h.fl _⟩
@[simp] theorem isCell_opt {α : Type} (f : α → D) [h : NoC f] (o : Option α) : (optD f o).isCell = false := NoC.nc (f := optD f) o
@[simp] theorem unc_opt {α : Type} (f : α → D) [h : NoC f] (o : Option α) : (optD f o).unc = optD f o := unc_noc (NoC.nc (f := optD f) o)
@[simp] theorem resT_opt {α : Type} (f : α → D) [h : NoC f] [h2 : Flt f] (o : Option α) (b : Bool) : resT b (optD f o) = .ret (optD f o) := resT_flt (Flt.fl (f := optD f) o) (NoC.nc (f := optD f) o) b
/-- told apart by _law_is -/
class Lis {α : Type} [DecidableEq α] (f : α → D) (k : outParam Nat) : Prop where
  nc : ∀ a, (f a).isCell = false
  ok : ∀ {prim : Fns} {fs : List DefS} {n : Nat}, K__law_is fs → k ≤ n → ∀ a b, callF prim fs n "_law_is" [f a, f b] = .ret (.bl (decide (a = b)))
section
variable {prim : Fns} {fs : List DefS} {n : Nat}
theorem li_int (K : K__law_is fs) (hn : 1 ≤ n) (i j : Int) : callF prim fs n "_law_is" [.int i, .int j] = .ret (.bl (decide (i = j))) := by
  rw [K.call hn rfl [some (.int i), some (.int j), none, none, none] rfl]
  unfold b__law_is
  simp [eqD_ints]
theorem li_non_non (K : K__law_is fs) (hn : 1 ≤ n) : callF prim fs n "_law_is" [.non, .non] = .ret (.bl true) := by
  rw [K.call hn rfl [some .non, some .non, none, none, none] rfl]
  unfold b__law_is
  simp
theorem li_non_int (K : K__law_is fs) (hn : 1 ≤ n) (i : Int) : callF prim fs n "_law_is" [.non, .int i] = .ret (.bl false) := by
  rw [K.call hn rfl [some .non, some (.int i), none, none, none] rfl]
  unfold b__law_is
  simp
theorem li_int_non (K : K__law_is fs) (hn : 1 ≤ n) (i : Int) : callF prim fs n "_law_is" [.int i, .non] = .ret (.bl false) := by
  rw [K.call hn rfl [some (.int i), some .non, none, none, none] rfl]
  unfold b__law_is
  simp
theorem li_tup_non (K : K__law_is fs) (hn : 1 ≤ n) (xs : List D) : callF prim fs n "_law_is" [.tup xs, .non] = .ret (.bl false) := by
  rw [K.call hn rfl [some (.tup xs), some .non, none, none, none] rfl]
  unfold b__law_is
  simp
theorem li_non_tup {α : Type} [DecidableEq α] {k : Nat} (f : α → D) [c : Cod f k] (hk : k ≤ 63) (K : K__law_is fs) (hn : 1 ≤ n) (l : List α) : callF prim fs n "_law_is" [.non, .tup (l.map f)] = .ret (.bl false) := by
  rw [K.call hn rfl [some .non, some (.tup (l.map f)), none, none, none] rfl]
  unfold b__law_is
  simp [eqD_non_tup f l hk]
theorem zip_all {α : Type} [DecidableEq α] : ∀ l m : List α, (decide (l.length = m.length) && (l.zip m).all fun p => decide (p.1 = p.2)) = decide (l = m)
  | [], [] => rfl
  | [], b :: m => rfl
  | a :: l, [] => rfl
  | a :: l, b :: m => by
    have e := zip_all l m
    have e2 : decide ((a :: l).length = (b :: m).length) = decide (l.length = m.length) := by simp
    rw [e2, List.zip_cons_cons, List.all_cons, Bool.and_left_comm, e]
    by_cases h : a = b <;> by_cases h2 : l = m <;> simp [h, h2]
theorem unc_nc {d : D} (h : d.isCell = false) : d.unc = d := by cases d <;> first | rfl | cases h
theorem li_pairs {α : Type} [DecidableEq α] {k : Nat} (f : α → D) [c : Lis f k] (K : K__law_is fs) (hn : k ≤ n) (l m : List α) {it : E} {x0 x1 : D} {x2 x3 x4 : Option D} (hi : (ev (callF prim fs n) it [some x0, some x1, x2, x3, x4] >>= itsT) = .ret ((l.zip m).map fun p => D.tup [f p.1, f p.2])) :
    ev (callF prim fs n) (.lc (.many [3, 4]) [3, 4] it .nil (.call "_law_is" (.cons (.var 3) (.cons (.var 4) .nil)))) [some x0, some x1, x2, x3, x4] = .ret (.lst ((l.zip m).map fun p => .bl (decide (p.1 = p.2)))) := by
  refine ev_lcM (fun p : α × α => D.tup [f p.1, f p.2]) (l.zip m) _ hi fun p hp => ?_
  have := c.ok (prim := prim) (n := n) K hn p.1 p.2
  simp [unc_nc (c.nc _), this, c.nc]
theorem li_tups {α : Type} [DecidableEq α] {k : Nat} (f : α → D) [c : Lis f k] (K : K__law_is fs) (hn : k + 1 ≤ n) (l m : List α) : callF prim fs n "_law_is" [.tup (l.map f), .tup (m.map f)] = .ret (.bl (decide (l = m))) := by
  rw [K.call (by omega) rfl [some (.tup (l.map f)), some (.tup (m.map f)), none, none, none] rfl]
  unfold b__law_is
  have e3 := li_pairs (prim := prim) f K (show k ≤ n - 1 by omega) l m (it := .zip (.var 0) (.var 1)) (x0 := .tup (l.map f)) (x1 := .tup (m.map f)) (x2 := none) (x3 := none) (x4 := none) (by simp)
  rw [← zip_all]
  simp [e3]
theorem li_lsts {α : Type} [DecidableEq α] {k : Nat} (f : α → D) [c : Lis f k] (K : K__law_is fs) (hn : k + 1 ≤ n) (l m : List α) : callF prim fs n "_law_is" [.lst (l.map f), .lst (m.map f)] = .ret (.bl (decide (l = m))) := by
  rw [K.call (by omega) rfl [some (.lst (l.map f)), some (.lst (m.map f)), none, none, none] rfl]
  unfold b__law_is
  have e3 := li_pairs (prim := prim) f K (show k ≤ n - 1 by omega) l m (it := .zip (.var 0) (.var 1)) (x0 := .lst (l.map f)) (x1 := .lst (m.map f)) (x2 := none) (x3 := none) (x4 := none) (by simp)
  rw [← zip_all]
  simp [e3]
instance : Lis natD 1 := ⟨fun _ => rfl, fun K hn a b => by
  rw [natD_eq, natD_eq, li_int K hn]
  simp
  omega⟩
instance lisTup {α : Type} [DecidableEq α] {k : Nat} (f : α → D) [c : Lis f k] : Lis (fun l : List α => D.tup (l.map f)) (k + 1) := ⟨fun _ => rfl, fun K hn a b => li_tups f K hn a b⟩
instance lisLst {α : Type} [DecidableEq α] {k : Nat} (f : α → D) [c : Lis f k] : Lis (fun l : List α => D.lst (l.map f)) (k + 1) := ⟨fun _ => rfl, fun K hn a b => li_lsts f K hn a b⟩
instance lisLot : Lis lotD 2 := lisTup natD
instance lisTie : Lis tieD 2 := ⟨fun _ => rfl, fun {prim fs n} K hn a b => by
  have e := li_tups (prim := prim) natD K hn [a.1, a.2] [b.1, b.2]
  rw [tieD_eq, tieD_eq]
  simp only [List.map_cons, List.map_nil, natD_eq] at e
  rw [e]
  obtain ⟨a1, a2⟩ := a
  obtain ⟨b1, b2⟩ := b
  simp⟩
instance lisONat : Lis (optD natD) 1 := ⟨fun a => by cases a <;> rfl, fun {prim fs n} K hn a b => by
  cases a <;> cases b
  · simp [li_non_non (prim := prim) K hn]
  · simp [li_non_int (prim := prim) K hn]
  · simp [li_int_non (prim := prim) K hn]
  · simp [li_int (prim := prim) K hn]
    omega⟩
instance lisOTie : Lis (optD tieD) 2 := ⟨fun a => by cases a <;> rfl, fun {prim fs n} K hn a b => by
  cases a with
  | none =>
    cases b with
    | none => simp [li_non_non (prim := prim) K (show 1 ≤ n by omega)]
    | some b =>
      have e := li_non_tup (prim := prim) natD (by decide) K (show 1 ≤ n by omega) [b.1, b.2]
      simp at e
      simp [e]
  | some a =>
    cases b with
    | none => simp [li_tup_non (prim := prim) K (show 1 ≤ n by omega)]
    | some b =>
      have e := lisTie.ok (prim := prim) K hn a b
      simp at e
      simp [e]⟩
instance lisOLot : Lis (optD lotD) 2 := ⟨fun a => by cases a <;> rfl, fun {prim fs n} K hn a b => by
  cases a with
  | none =>
    cases b with
    | none => simp [li_non_non (prim := prim) K (show 1 ≤ n by omega)]
    | some b => simp [li_non_tup (prim := prim) natD (by decide) K (show 1 ≤ n by omega) b]
  | some a =>
    cases b with
    | none => simp [li_tup_non (prim := prim) K (show 1 ≤ n by omega)]
    | some b => simp [li_tups (prim := prim) natD K hn a b]⟩
theorem p__law_is {α : Type} [DecidableEq α] {k : Nat} (f : α → D) [c : Lis f k] (K : K__law_is fs) (hn : k ≤ n) (a b : α) : callF prim fs n "_law_is" [f a, f b] = .ret (.bl (decide (a = b))) := c.ok K hn a b
end
end Fm


/-! FpE: what is drawn (the first kind of crowd). -/
namespace Fm
open PySem PySem.Spec PyProof.Rows L2
/- _law_some: 0 hand, 1 things, -/
def b__law_some : S :=
 (.cons (.ret (.ix (.var 1) (.call "_law_draw" (.cons (.var 0) (.cons (.blt .len (.cons (.var 1) .nil)) .nil)))))
 .nil)

/- _law_crowd: 0 hand, 1 most, 2 often, 3 b, 4 ties, 5 person, 6 persons, 7 needs, 8 many, 9 some, 10 a, 11 tie, -/
def b__law_crowd : S :=
 (.cons (.par [6, 4, 7] (.cons (.op .add (.int 1) (.call "_law_draw" (.cons (.var 0) (.cons (.var 1) .nil)))) (.cons (.lst .nil) (.cons (.lst .nil) .nil))))
 (.cons (.set (.one 2) (.op .add (.int 1) (.call "_law_draw" (.cons (.var 0) (.cons (.int 3) .nil)))))
 (.cons (.for_ (.one 3) (.rng1 (.var 6))
 (.cons (.ext 4 (.lc (.one 10) [10] (.rng1 (.var 3)) (.op .lt (.call "_law_draw" (.cons (.var 0) (.cons (.int 4) .nil))) (.var 2)) (.tup (.cons (.var 10) (.cons (.var 3) .nil)))))
 .nil))
 (.cons (.set (.one 4) (.blt .tuple (.cons (.blt .sorted (.cons (.var 4) .nil)) .nil)))
 (.cons (.for_ (.one 5) (.rng1 (.var 6))
 (.cons (.set (.one 8) (.blt .len (.cons (.lc (.one 11) [11] (.var 4) (.op .isin (.var 5) (.var 11)) (.var 11)) .nil)))
 (.cons (.set (.one 9) (.lst (.cons (.int 1) (.cons (.int 1) (.cons (.int 2) (.cons (.call "_law_draw" (.cons (.var 0) (.cons (.op .add (.var 8) (.int 2)) .nil))) (.cons (.blt .min2 (.cons (.var 8) (.cons (.int 2) .nil))) (.cons (.var 8) (.cons (.blt .int (.cons (.op .gt (.call "_law_draw" (.cons (.var 0) (.cons (.int 3) .nil))) (.int 0)) .nil)) .nil)))))))))
 (.cons (.app 7 (.call "_law_some" (.cons (.var 0) (.cons (.var 9) .nil))))
 .nil))))
 (.cons (.ret (.tup (.cons (.var 6) (.cons (.var 4) (.cons (.blt .tuple (.cons (.var 7) .nil)) .nil)))))
 .nil))))))

/- _law_drawn_lot: 0 hand, 1 persons, 2 often, 3 person, -/
def b__law_drawn_lot : S :=
 (.cons (.set (.one 2) (.op .add (.int 2) (.call "_law_draw" (.cons (.var 0) (.cons (.int 3) .nil)))))
 (.cons (.ret (.blt .tuple (.cons (.lc (.one 3) [3] (.rng1 (.var 1)) (.op .eq (.call "_law_draw" (.cons (.var 0) (.cons (.var 2) .nil))) (.int 0)) (.var 3)) .nil)))
 .nil))

abbrev K_draw (fs : List DefS) : Prop := NoB fs "_law_draw"
abbrev K_hand (fs : List DefS) : Prop := NoB fs "_law_hand"
abbrev K__law_some (fs : List DefS) : Prop := HasB fs "_law_some" 2 2 b__law_some ∧ K_draw fs
abbrev K__law_drawn_lot (fs : List DefS) : Prop := HasB fs "_law_drawn_lot" 2 4 b__law_drawn_lot ∧ K_draw fs
abbrev K__law_crowd (fs : List DefS) : Prop := HasB fs "_law_crowd" 2 12 b__law_crowd ∧ K_draw fs ∧ K__law_some fs
section
variable {prim : Fns} {fs : List DefS} {n : Nat}
theorem p_hand (P : PrimH prim) (K : K_hand fs) (ns : List Int) : callF prim fs n "_law_hand" [.scr ns] = .ret .hand := by
  rw [K.call, P.hand]
  rfl
theorem p_drawI (P : PrimH prim) (K : K_draw fs) {m : Int} (h : 0 < m ∧ m < 1073741824) : callF prim fs n "_law_draw" [.hand, .int m] = .draw m.toNat fun i => .ret (.int (i : Nat)) := by
  rw [K.call, P.draw]
  show (if 0 < (m : Int) ∧ (m : Int) < 1073741824 then T.draw (m : Int).toNat (fun i => T.ret (D.int (i : Nat))) else T.bad) = _
  rw [if_pos h]
theorem p_draw (P : PrimH prim) (K : K_draw fs) {m : Nat} (h : 0 < m ∧ m < 1073741824) : callF prim fs n "_law_draw" [.hand, .int m] = .draw m fun i => .ret (.int (i : Nat)) := by
  rw [K.call, P.draw]
  show (if 0 < (m : Int) ∧ (m : Int) < 1073741824 then T.draw (m : Int).toNat (fun i => T.ret (D.int (i : Nat))) else T.bad) = _
  rw [if_pos (by omega)]
  rfl
theorem p__law_some (P : PrimH prim) (K : K__law_some fs) (hn : 1 ≤ n) {xs : List D} (h : 0 < xs.length ∧ xs.length ≤ 1000) {q : D → Prop} (hq : ∀ x ∈ xs, x.isCell = false ∧ q x) : Wp (callF prim fs n "_law_some" [.hand, .lst xs]) q := by
  rw [K.1.call (by omega) rfl [some .hand, some (.lst xs)] rfl]
  unfold b__law_some
  have e1 := p_draw (n := n - 1) P K.2 (m := xs.length) (by omega)
  simp [e1]
  intro i hi
  have e2 : ixD (.lst xs) (.int (i : Nat)) = .ret xs[i] := ix_get rfl (fun _ e => by cases e) hi
  have e3 := hq _ (List.getElem_mem hi)
  cases hx : xs[i] with
  | cell ys => rw [hx] at e3; cases e3.1
  | _ =>
    rw [hx] at e2 e3
    first
    | simp [e2, e3]
    | (simp only [e2, ret_bind]; simpa [resT] using e3.2)
theorem p__law_drawn_lot (P : PrimH prim) (K : K__law_drawn_lot fs) (hn : 1 ≤ n) {m : Nat} (hm : m ≤ 1000) {q : D → Prop} (hq : ∀ l, IsLot m l → q (.tup (l.map natD))) : Wp (callF prim fs n "_law_drawn_lot" [.hand, .int m]) q := by
  rw [K.1.call (by omega) rfl [some .hand, some (.int m), none, none] rfl]
  unfold b__law_drawn_lot
  have e1 := fun m h => p_drawI (n := n - 1) (m := m) P K.2 h
  have e2 := e1 3 (by omega)
  simp [e2]
  intro i hi
  refine wp_bindI ?_
  refine ev_lc_wp natD (List.range m) natD ?_ (fun a ha => ?_) fun l' hl => ?_
  · simp [rng1_nat hm]
  · have e3 := e1 (2 + i) (by omega)
    simp [e3, eqD_ints]
    intro j hj
    by_cases h : j = 0 <;> simp [h]
  · simp
    exact hq _ (sublist_lot hl)
theorem pairs_len {m : Nat} {ts : List (Nat × Nat)} (h : ∀ t ∈ ts, t.1 < t.2 ∧ t.2 < m) (hn : ts.Nodup) : ts.length ≤ m * m := by
  have := List.Nodup.length_le_of_subset hn (l₂ := (List.range m).flatMap fun a => (List.range m).map fun b => (a, b)) fun t ht => by
    have h1 := h t ht
    rw [List.mem_flatMap]
    refine ⟨t.1, List.mem_range.mpr (by omega), List.mem_map.mpr ⟨t.2, List.mem_range.mpr (by omega), rfl⟩⟩
  rw [List.length_flatMap] at this
  have e : ∀ k : Nat, ((List.range k).map fun _ => m).sum = k * m := fun k => by
    induction k with
    | zero => simp
    | succ k ih => rw [List.range_succ, List.map_append, List.sum_append, ih, Nat.succ_mul]; simp
  simpa [e] using this
theorem canSort_ties (ts : List (Nat × Nat)) : canSort (ts.map tieD) = true := by
  unfold canSort
  rw [Bool.and_eq_true, List.all_eq_true, List.all_eq_true]
  refine ⟨fun x hx => ?_, fun x hx => ?_⟩
  · obtain ⟨a, _, rfl⟩ := List.mem_map.mp hx
    rfl
  · obtain ⟨a, _, rfl⟩ := List.mem_map.mp hx
    rw [List.all_eq_true]
    intro y hy
    obtain ⟨b, _, rfl⟩ := List.mem_map.mp hy
    rfl
theorem cmp_nat (a b : Nat) : D.cmp (.int (a : Nat)) (.int (b : Nat)) = compare a b := by
  show compare (a : Int) (b : Int) = compare a b
  rcases Nat.lt_trichotomy a b with h | h | h
  · rw [Nat.compare_eq_lt.mpr h, Int.compare_eq_lt.mpr (by omega)]
  · subst h
    rw [Nat.compare_eq_eq.mpr rfl, Int.compare_eq_eq.mpr rfl]
  · rw [Nat.compare_eq_gt.mpr h, Int.compare_eq_gt.mpr (by omega)]
theorem le_tie (t u : Nat × Nat) : D.le (tieD t) (tieD u) = leP t u := by
  have e : D.cmp (tieD t) (tieD u) = (compare t.1 u.1).then ((compare t.2 u.2).then .eq) := by
    show (D.cmp (.int t.1) (.int u.1)).then ((D.cmp (.int t.2) (.int u.2)).then .eq) = _
    rw [cmp_nat, cmp_nat]
  unfold D.le leP
  rw [e]
  rcases Nat.lt_trichotomy t.1 u.1 with h | h | h
  · rw [Nat.compare_eq_lt.mpr h, decide_eq_true (by omega)]
    rfl
  · rw [Nat.compare_eq_eq.mpr h]
    rcases Nat.lt_trichotomy t.2 u.2 with h2 | h2 | h2
    · rw [Nat.compare_eq_lt.mpr h2, decide_eq_true (by omega)]
      rfl
    · rw [Nat.compare_eq_eq.mpr h2, decide_eq_true (by omega)]
      rfl
    · rw [Nat.compare_eq_gt.mpr h2, decide_eq_false (by omega)]
      rfl
  · rw [Nat.compare_eq_gt.mpr h, decide_eq_false (by omega)]
    rfl
theorem sorted_ties (ts : List (Nat × Nat)) (h : ts.length ≤ 1000) : bltin .sorted [.lst (ts.map tieD)] = .ret (.lst ((sortG leP ts).map tieD)) := by
  show (if (canSort (ts.map tieD) && decide ((ts.map tieD).length ≤ maxL)) = true then T.ret (D.lst (sortD (ts.map tieD))) else T.bad) = _
  rw [canSort_ties, Bool.true_and, sortD_map le_tie, List.length_map, if_pos (decide_eq_true (by rw [maxL_eq]; omega))]
theorem sorted_tiesC (ts : List (Nat × Nat)) (h : ts.length ≤ 1000) : bltin .sorted [.cell (ts.map tieD)] = .ret (.lst ((sortG leP ts).map tieD)) := sorted_ties ts h
theorem sorted_tiesT (ts : List (Nat × Nat)) (h : ts.length ≤ 1000) : bltin .sorted [.tup (ts.map tieD)] = .ret (.lst ((sortG leP ts).map tieD)) := sorted_ties ts h
theorem inD_pair (p a b : Nat) : inD (.int (p : Nat)) [.int (a : Nat), .int (b : Nat)] = .ret (decide (p = a ∨ p = b)) := by
  have := inD_nat p [a, b]
  simp at this
  simp [this]
theorem inc_le {m : Nat} {ts : List (Nat × Nat)} (h : ∀ t ∈ ts, t.1 < t.2 ∧ t.2 < m) (hn : ts.Nodup) {p : Nat} (hp : p < m) : (ts.filter fun t => decide (p = t.1 ∨ p = t.2)).length + 1 ≤ m := by
  have h1 : (ts.flatMap (oth p)).length = (ts.filter fun t => decide (p = t.1 ∨ p = t.2)).length := by
    clear hn
    induction ts with
    | nil => rfl
    | cons t ts ih =>
      have h2 := h t (.head _)
      rw [List.flatMap_cons, List.length_append, ih (fun u hu => h u (.tail _ hu)), List.filter_cons]
      unfold oth
      by_cases e1 : t.1 = p
      · have e2 : ¬ t.2 = p := by omega
        simp [e1, e2]
        omega
      · by_cases e2 : t.2 = p
        · simp [e1, e2]
          omega
        · have e3 : ¬ (p = t.1 ∨ p = t.2) := by omega
          simp [e1, e2, e3]
  have h2 : (p :: ts.flatMap (oth p)).length ≤ m := nodup_le (List.nodup_cons.mpr ⟨fun hx => (by
    have e := (mem_oth fun t ht => (h t ht).1).mp hx
    unfold adj at e
    have := h _ (of_decide_eq_true e)
    simp at this), nodup_oth (fun t ht => (h t ht).1) hn⟩) fun x hx => by
      rcases List.mem_cons.mp hx with rfl | hx
      · exact hp
      · have e := (mem_oth fun t ht => (h t ht).1).mp hx
        unfold adj at e
        have := h _ (of_decide_eq_true e)
        simp at this
        omega
  rw [List.length_cons, h1] at h2
  exact h2
theorem p__law_crowd (P : PrimH prim) (K : K__law_crowd fs) (hn : 2 ≤ n) {most : Nat} (hm : 1 ≤ most ∧ most ≤ 9) {q : D → Prop} (hq : ∀ c : Cr, c.Ok → c.n ≤ most → q (partsD c)) : Wp (callF prim fs n "_law_crowd" [.hand, .int most]) q := by
  rw [K.1.call (by omega) rfl [some .hand, some (.int most), none, none, none, none, none, none, none, none, none, none] rfl]
  unfold b__law_crowd
  have e1 := fun m h => p_drawI (n := n - 1) (m := m) P K.2.1 h
  have e2 := e1 3 (by omega)
  have e3 := e1 most (by omega)
  simp [e2, e3, mkLst]
  intro i hi o ho
  rw [show (1 + (i : Int)) = ((1 + i : Nat) : Int) by omega, show (1 + (o : Int)) = ((1 + o : Nat) : Int) by omega]
  have hm1 : 1 ≤ 1 + i ∧ 1 + i ≤ 9 := by omega
  have hm2 : 1 + i ≤ most := by omega
  generalize 1 + i = m at hm1 hm2 ⊢
  generalize 1 + o = o1
  refine fin_seq_wp (exec_for_wpn natD (List.range m) (fun rest env => ∃ qq ts x y, List.range m = qq ++ rest ∧ (∀ t ∈ ts, t.1 < t.2 ∧ t.2 < qq.length) ∧ ts.Nodup ∧ env = [some .hand, some (.int most), some (.int o1), x, some (.cell (ts.map tieD)), none, some (.int m), some (.cell []), none, none, y, none])
    (by simp [rng1_nat (show m ≤ 1000 by omega)]) rfl (fun b rest env hx hI => ?_) ⟨[], [], none, none, rfl, by simp, by simp, by simp⟩ fun e hI => ?_)
  · obtain ⟨qq, ts, x, y, hq2, ht, hnd, rfl⟩ := hI
    obtain ⟨hq3, hb⟩ := range_split hq2
    have hqb : qq.length = b := by rw [hq3]; simp
    refine ⟨_, by simp; rfl, fun Qs hQ => ?_⟩
    simp
    refine wp_bindI ?_
    refine ev_lc_wp natD (List.range b) (fun a => tieD (a, b)) ?_ (fun a ha => ?_) fun l' hl => ?_
    · simp [rng1_nat (show b ≤ 1000 by omega)]
    · have e4 := e1 4 (by omega)
      simp [e4, mkTup]
      intro j hj
      by_cases h : j < o1 <;> simp [h] <;> omega
    · have l1 := pairs_len (m := 9) (fun t hh => ⟨(ht t hh).1, by have := (ht t hh).2; omega⟩) hnd
      have l2 := (sublist_lot hl).len
      have l3 : ts.length + l'.length ≤ maxL := by rw [maxL_eq]; omega
      refine Wp.of_eq (a := .nx [some .hand, some (.int most), some (.int o1), some (.int b), some (.cell ((ts ++ l'.map fun a => (a, b)).map tieD)), none, some (.int m), some (.cell []), none, none, y, none]) (by simp [l3, Function.comp_def, tieD]) (hQ _ ⟨qq ++ [b], ts ++ l'.map fun a => (a, b), some (.int b), y, by rw [hq2]; simp, fun t hh => ?_, ?_, rfl⟩)
      · rw [List.length_append, List.length_singleton]
        rcases List.mem_append.mp hh with hh | hh
        · have := ht t hh
          omega
        · obtain ⟨a, ha, rfl⟩ := List.mem_map.mp hh
          have := (sublist_lot hl).lt a ha
          simp only
          omega
      · refine List.nodup_append.mpr ⟨hnd, ?_, fun t hh u hu e => ?_⟩
        · exact List.Pairwise.map _ (fun a b h e => h (by cases e; rfl)) (sublist_lot hl).asc.nodup
        · obtain ⟨a, ha, rfl⟩ := List.mem_map.mp hu
          have := ht t hh
          rw [e] at this
          simp only at this
          omega
  · obtain ⟨qq, ts, x, y, hq2, ht, hnd, rfl⟩ := hI
    rw [List.append_nil] at hq2
    have hqb : qq.length = m := by rw [← hq2]; simp
    rw [hqb] at ht
    have l1 := pairs_len (m := 9) (fun t hh => ⟨(ht t hh).1, by have := (ht t hh).2; omega⟩) hnd
    have e5 := sorted_tiesC ts (by omega)
    have hsrt := sortP_lt hnd
    have ht' : ∀ t ∈ sortG leP ts, t.1 < t.2 ∧ t.2 < m := fun t hh => ht t (mem_sortG.mp hh)
    have hnd' := pairwise_ne hsrt
    generalize sortG leP ts = us at e5 hsrt ht' hnd'
    simp [e5]
    refine fin_seq_wp (exec_for_wpn natD (List.range m) (fun rest env => ∃ (qq ns : List Nat) (x z w v : Option D), List.range m = qq ++ rest ∧ ns.length = qq.length ∧ (∀ k ∈ ns, k ≤ 9) ∧ env = [some .hand, some (.int most), some (.int o1), x, some (.tup (us.map tieD)), z, some (.int m), some (.cell (ns.map natD)), w, v, y, none])
      (by simp [rng1_nat (show m ≤ 1000 by omega)]) rfl (fun b rest env hx hI => ?_) ⟨[], [], x, none, none, none, by simp, by simp, by simp, by simp⟩ fun e hI => ?_)
    · obtain ⟨qq, ns, x', z, w, v, hq3, hl3, hk, rfl⟩ := hI
      have hb := (range_split hq3).2
      have hqb : qq.length = b := by rw [(range_split hq3).1]; simp
      refine ⟨_, by simp; rfl, fun Qs hQ => ?_⟩
      have e6 : ev (callF prim fs (n - 1)) (.lc (.one 11) [11] (.var 4) (.op .isin (.var 5) (.var 11)) (.var 11)) [some .hand, some (.int most), some (.int o1), x', some (.tup (us.map tieD)), some (.int b), some (.int m), some (.cell (ns.map natD)), w, v, y, none] = .ret (.lst ((us.filter fun t => decide (b = t.1 ∨ b = t.2)).map tieD)) := by
        refine ev_lcF tieD us _ _ (by simp) fun t ht => ?_
        simp [inD_pair]
      have l3 := inc_le ht' hnd' hb
      generalize (us.filter fun t => decide (b = t.1 ∨ b = t.2)) = inc at e6 l3
      have l4 : ns.length < maxL := by rw [maxL_eq]; omega
      have e7 := e1 (inc.length + 2) (by omega)
      have e8 : bltin .min2 [.int (inc.length : Nat), .int 2] = .ret (.int (min inc.length 2 : Nat)) := by simpa using min2_nat inc.length 2
      simp [e6, e7, mkLst, e2, e8]
      intro j hj k hk2
      have fin : ∀ v : Nat, v ≤ 9 → Qs (.nx [some .hand, some (.int most), some (.int o1), x', some (.tup (us.map tieD)), some (.int b), some (.int m), some (.cell (ns.map natD ++ [.int v])), some (.int inc.length), some (.cell [.int 1, .int 1, .int 2, .int j, .int (min inc.length 2 : Nat), .int inc.length, .int (if 0 < k then 1 else 0)]), y, none]) := fun v hv =>
        hQ _ ⟨qq ++ [b], ns ++ [v], x', some (.int b), some (.int inc.length), some (.cell [.int 1, .int 1, .int 2, .int j, .int (min inc.length 2 : Nat), .int inc.length, .int (if 0 < k then 1 else 0)]), by rw [hq3]; simp, by simp [hl3], fun z hz => (List.mem_append.mp hz).elim (hk z) fun hz => by rw [List.mem_singleton.mp hz]; exact hv, by simp⟩
      refine wp_bindI ?_
      refine p__law_some P K.2.2 (by omega) (by simp) fun z hz => ?_
      obtain ⟨v, hv, rfl⟩ : ∃ v : Nat, v ≤ 9 ∧ z = .int v := by
        simp only [List.mem_cons, List.not_mem_nil, or_false] at hz
        rcases hz with rfl | rfl | rfl | rfl | rfl | rfl | rfl
        · exact ⟨1, by omega, rfl⟩
        · exact ⟨1, by omega, rfl⟩
        · exact ⟨2, by omega, rfl⟩
        · exact ⟨j, by omega, rfl⟩
        · exact ⟨min inc.length 2, by omega, rfl⟩
        · exact ⟨inc.length, by omega, rfl⟩
        · by_cases h : 0 < k
          · exact ⟨1, by omega, by rw [if_pos h]; rfl⟩
          · exact ⟨0, by omega, by rw [if_neg h]; rfl⟩
      refine ⟨rfl, ?_⟩
      simp [l4]
      exact fin v hv
    · obtain ⟨qq, ns, x', z, w, v, hq3, hl3, hk, rfl⟩ := hI
      rw [List.append_nil] at hq3
      have hl4 : ns.length = m := by rw [hl3, ← hq3]; simp
      simp [mkTup]
      exact hq ⟨m, us, ns⟩ ⟨hm1.1, hm1.2, ht', hsrt, hl4, hk⟩ hm2
end
end Fm


/-! FpF: sparing: with_need, needs_more, less_tie, tie_gone; the law's own of these. -/
namespace Fm
open PySem PySem.Spec PyProof.Rows L2
/- with_need: 0 crowd, 1 person, 2 need, -/
def b_with_need : S :=
 (.cons (.ret (.call "Crowd" (.cons (.attr (.var 0) "persons") (.cons (.attr (.var 0) "ties") (.cons (.op .add (.op .add (.sl (.attr (.var 0) "needs") .nil (.var 1)) (.tup (.cons (.var 2) .nil))) (.sl (.attr (.var 0) "needs") (.op .add (.var 1) (.int 1)) .nil)) .nil)))))
 .nil)

/- needs_more: 0 crowd, 1 first, 2 person, 3 need, -/
def b_needs_more : S :=
 (.cons (.expr (.call "check_lot" (.cons (.var 0) (.cons (.var 1) .nil))))
 (.cons (.expr (.call "check_person" (.cons (.var 0) (.cons (.var 2) .nil))))
 (.cons (.ite (.op .isin (.var 2) (.var 1))
 (.cons (.ret .non)
 .nil)
 .nil)
 (.cons (.set (.one 3) (.int 0))
 (.cons (.while_ (.op .isin (.var 2) (.call "taken_in" (.cons (.call "with_need" (.cons (.var 0) (.cons (.var 2) (.cons (.var 3) .nil)))) (.cons (.var 1) .nil))))
 (.cons (.set (.one 3) (.op .add (.var 3) (.int 1)))
 .nil))
 (.cons (.ret (.var 3))
 .nil))))))

/- less_tie: 0 crowd, 1 tie, 2 one, -/
def b_less_tie : S :=
 (.cons (.ret (.call "Crowd" (.cons (.attr (.var 0) "persons") (.cons (.blt .tuple (.cons (.lc (.one 2) [2] (.attr (.var 0) "ties") (.op .ne (.var 2) (.var 1)) (.var 2)) .nil)) (.cons (.attr (.var 0) "needs") .nil)))))
 .nil)

/- tie_gone: 0 crowd, 1 first, 2 person, 3 tie, -/
def b_tie_gone : S :=
 (.cons (.expr (.call "check_lot" (.cons (.var 0) (.cons (.var 1) .nil))))
 (.cons (.expr (.call "check_person" (.cons (.var 0) (.cons (.var 2) .nil))))
 (.cons (.ite (.or (.op .isin (.var 2) (.var 1)) (.op .notin (.var 2) (.call "taken_in" (.cons (.var 0) (.cons (.var 1) .nil)))))
 (.cons (.ret .non)
 .nil)
 .nil)
 (.cons (.for_ (.one 3) (.attr (.var 0) "ties")
 (.cons (.ite (.op .notin (.var 2) (.call "taken_in" (.cons (.call "less_tie" (.cons (.var 0) (.cons (.var 3) .nil))) (.cons (.var 1) .nil))))
 (.cons (.ret (.var 3))
 .nil)
 .nil)
 .nil))
 (.cons (.ret .non)
 .nil)))))

/- _law_tie: 0 parts, 1 first, 2 person, 3 tie, 4 less, 5 one, -/
def b__law_tie : S :=
 (.cons (.ite (.or (.op .isin (.var 2) (.var 1)) (.op .notin (.var 2) (.call "_law_taken" (.cons (.var 0) (.cons (.var 1) .nil)))))
 (.cons (.ret .non)
 .nil)
 .nil)
 (.cons (.for_ (.one 3) (.ix (.var 0) (.int 1))
 (.cons (.set (.one 4) (.tup (.cons (.ix (.var 0) (.int 0)) (.cons (.blt .tuple (.cons (.lc (.one 5) [5] (.ix (.var 0) (.int 1)) (.op .ne (.var 5) (.var 3)) (.var 5)) .nil)) (.cons (.ix (.var 0) (.int 2)) .nil)))))
 (.cons (.ite (.op .notin (.var 2) (.call "_law_taken" (.cons (.var 4) (.cons (.var 1) .nil))))
 (.cons (.ret (.var 3))
 .nil)
 .nil)
 .nil)))
 (.cons (.ret .non)
 .nil)))

/- _law_need_right: 0 parts, 1 first, 2 person, 3 told, 4 has, 5 many, 6 one, -/
def b__law_need_right : S :=
 (.cons (.ite (.op .isin (.var 2) (.var 1))
 (.cons (.ret (.op .is_ (.var 3) .non))
 .nil)
 .nil)
 (.cons (.set (.one 4) (.call "_law_taken" (.cons (.call "_law_with_need" (.cons (.var 0) (.cons (.var 2) (.cons (.int 9) .nil)))) (.cons (.var 1) .nil))))
 (.cons (.set (.one 5) (.blt .len (.cons (.lc (.one 6) [6] (.ix (.call "_law_besides" (.cons (.var 0) .nil)) (.var 2)) (.op .isin (.var 6) (.var 4)) (.var 6)) .nil)))
 (.cons (.ite (.nt (.call "_law_is" (.cons (.var 3) (.cons (.op .add (.var 5) (.int 1)) .nil))))
 (.cons (.ret (.bl false))
 .nil)
 .nil)
 (.cons (.ite (.op .isin (.var 2) (.call "taken" (.cons (.call "_law_made" (.cons (.call "_law_with_need" (.cons (.var 0) (.cons (.var 2) (.cons (.var 3) .nil)))) .nil)) (.cons (.var 1) .nil))))
 (.cons (.ret (.bl false))
 .nil)
 .nil)
 (.cons (.ret (.op .isin (.var 2) (.call "taken" (.cons (.call "_law_made" (.cons (.call "_law_with_need" (.cons (.var 0) (.cons (.var 2) (.cons (.op .sub (.var 3) (.int 1)) .nil)))) .nil)) (.cons (.var 1) .nil)))))
 .nil))))))

abbrev K_with_need (fs : List DefS) : Prop := HasB fs "with_need" 3 3 b_with_need ∧ K_crowd fs
abbrev K_needs_more (fs : List DefS) : Prop := HasB fs "needs_more" 3 4 b_needs_more ∧ K_check_lot fs ∧ K_check_person fs ∧ K_taken_in fs ∧ K_with_need fs
abbrev K_less_tie (fs : List DefS) : Prop := HasB fs "less_tie" 2 3 b_less_tie ∧ K_crowd fs
abbrev K_tie_gone (fs : List DefS) : Prop := HasB fs "tie_gone" 3 4 b_tie_gone ∧ K_check_lot fs ∧ K_check_person fs ∧ K_taken_in fs ∧ K_less_tie fs
abbrev K__law_with_need (fs : List DefS) : Prop := HasB fs "_law_with_need" 3 6 b__law_with_need
abbrev K__law_tie (fs : List DefS) : Prop := HasB fs "_law_tie" 3 6 b__law_tie ∧ K__law_taken fs
abbrev K__law_need_right (fs : List DefS) : Prop := HasB fs "_law_need_right" 4 7 b__law_need_right ∧ K__law_taken fs ∧ K__law_with_need fs ∧ K__law_is fs ∧ K_taken fs ∧ K__law_made fs
theorem bound_nat {k : Nat} (h : k ≤ 1000) : boundD (.int (k : Nat)) = .ret (some (k : Int)) := by
  show (if small (k : Nat) = true then T.ret (some (k : Int)) else T.bad) = _
  rw [small_nat h]
  rfl
theorem cut_to {xs : List D} {k : Nat} (h : k ≤ xs.length) : cutD xs none (some (k : Int)) = xs.take k := by
  unfold cutD
  rw [HT.sIx_none, HT.sIx_nat, Nat.min_eq_left h]
  simp
theorem cut_from {xs : List D} {k : Nat} (h : k ≤ xs.length) : cutD xs (some (k : Int)) none = xs.drop k := by
  unfold cutD
  rw [HT.sIx_none, HT.sIx_nat, Nat.min_eq_left h]
  rw [List.take_of_length_le (by simp)]
theorem sl_to {α : Type} (f : α → D) {l : List α} {k : Nat} (h : k ≤ l.length) : slD (.tup (l.map f)) none (some (k : Int)) = .ret (.tup ((l.take k).map f)) := by
  show T.ret (D.tup (cutD (l.map f) none (some k))) = _
  rw [cut_to (by rw [List.length_map]; exact h), List.map_take]
theorem sl_from {α : Type} (f : α → D) {l : List α} {k : Nat} (h : k ≤ l.length) : slD (.tup (l.map f)) (some (k : Int)) none = .ret (.tup ((l.drop k).map f)) := by
  show T.ret (D.tup (cutD (l.map f) (some k) none)) = _
  rw [cut_from (by rw [List.length_map]; exact h), List.map_drop]
def lessT (c : Cr) (t : Nat × Nat) : Cr := ⟨c.n, c.ts.filter fun u => decide (u ≠ t), c.ns⟩
@[simp] theorem lessT_n (c : Cr) (t : Nat × Nat) : (lessT c t).n = c.n := rfl
@[simp] theorem lessT_ns (c : Cr) (t : Nat × Nat) : (lessT c t).ns = c.ns := rfl
@[simp] theorem setN_n (c : Cr) (p k : Nat) : (setN c p k).n = c.n := rfl
@[simp] theorem setN_ts (c : Cr) (p k : Nat) : (setN c p k).ts = c.ts := rfl
theorem setN_ok {c : Cr} (h : c.Ok) {p k : Nat} (hk : k ≤ 9) : (setN c p k).Ok :=
  ⟨h.n1, h.n9, h.tie, h.srt, by show (c.ns.set p k).length = c.n; rw [List.length_set, h.nl], fun x hx => by
    rcases List.mem_or_eq_of_mem_set hx with z | z
    · exact h.k9 x z
    · omega⟩
theorem lessT_ok {c : Cr} (h : c.Ok) (t : Nat × Nat) : (lessT c t).Ok :=
  ⟨h.n1, h.n9, fun u hu => h.tie u (List.mem_filter.mp hu).1, h.srt.filter _, h.nl, h.k9⟩
section
variable {prim : Fns} {fs : List DefS} {n : Nat}
theorem p_with_need (P : PrimH prim) (K : K_with_need fs) (hn : 1 ≤ n) {c : Cr} (h : c.Ok) {p k : Nat} (hp : p < c.n) (hk : k ≤ 9) : callF prim fs n "with_need" [crD c, .int p, .int k] = .ret (crD (setN c p k)) := by
  rw [K.1.call (by omega) rfl [some (crD c), some (.int p), some (.int k)] rfl]
  unfold b_with_need
  have hl := h.nl
  have h9 := h.n9
  have e1 := sl_to natD (l := c.ns) (k := p) (by omega)
  have e2 := sl_from natD (l := c.ns) (k := p + 1) (by omega)
  have e3 := bound_nat (k := p) (by omega)
  have e4 := bound_nat (k := p + 1) (by omega)
  have e5 := p_crowd (n := n - 1) P K.2 (setN_ok h (p := p) (k := k) hk)
  unfold setN at e5 ⊢
  rw [List.set_eq_take_append_cons_drop, if_pos (by omega)] at e5 ⊢
  simp at e2 e4 e5
  have l1 : min p c.ns.length + 1 ≤ maxL := by rw [maxL_eq]; omega
  have l2 : min p c.ns.length + 1 + (c.ns.length - (p + 1)) ≤ maxL := by rw [maxL_eq]; omega
  simp [e1, e2, e3, e4, e5, l1, l2, mkTup]
theorem p_less_tie (P : PrimH prim) (K : K_less_tie fs) (hn : 1 ≤ n) {c : Cr} (h : c.Ok) (t : Nat × Nat) : callF prim fs n "less_tie" [crD c, tieD t] = .ret (crD (lessT c t)) := by
  rw [K.1.call (by omega) rfl [some (crD c), some (tieD t), none] rfl]
  unfold b_less_tie
  have e1 : ev (callF prim fs (n - 1)) (.lc (.one 2) [2] (.attr (.var 0) "ties") (.op .ne (.var 2) (.var 1)) (.var 2)) [some (crD c), some (tieD t), none] = .ret (.lst ((lessT c t).ts.map tieD)) := by
    refine ev_lcF tieD c.ts _ _ (by simp) fun u hu => ?_
    obtain ⟨a, b⟩ := u
    obtain ⟨a', b'⟩ := t
    by_cases h1 : a = a' <;> by_cases h2 : b = b' <;> simp [h1, h2]
  have e5 := p_crowd (n := n - 1) P K.2 (lessT_ok h t)
  simp at e1 e5
  simp [e1, e5]
/-- the least tie without which a person does not take it up -/
noncomputable def gone (c : Cr) (f : List Nat) (p : Nat) : Option (Nat × Nat) :=
  if p ∈ f ∨ p ∉ tk c f then none else c.ts.find? fun t => !decide (p ∈ tk (lessT c t) f)
def goneC (c : Cr) (f : List Nat) (p : Nat) : Option (Nat × Nat) :=
  if p ∈ f ∨ p ∉ tkC c f then none else c.ts.find? fun t => !decide (p ∈ tkC (lessT c t) f)
theorem gone_C {c : Cr} {f : List Nat} (h : IsLot c.n f) (p : Nat) : gone c f p = goneC c f p := by
  unfold gone goneC
  rw [tk_C h.asc.nodup h.lt]
  have : ∀ t, tk (lessT c t) f = tkC (lessT c t) f := fun t => tk_C h.asc.nodup h.lt
  simp only [this]
theorem find_split {α : Type} {q : α → Bool} {pre r : List α} {a : α} (h : ∀ x ∈ pre, q x = false) (ha : q a = true) : (pre ++ a :: r).find? q = some a := by
  rw [List.find?_append, List.find?_eq_none.mpr (fun x hx => by rw [h x hx]; decide), List.find?_cons, ha]
  rfl
theorem p_tie_gone (P : PrimH prim) (K : K_tie_gone fs) (hn : 6 ≤ n) {c : Cr} (h : c.Ok) {f : List Nat} (hf : IsLot c.n f) {p : Nat} (hp : p < c.n) : callF prim fs n "tie_gone" [crD c, .tup (f.map natD), .int p] = .ret (optD tieD (gone c f p)) := by
  rw [K.1.call (by omega) rfl [some (crD c), some (.tup (f.map natD)), some (.int p), none] rfl]
  unfold b_tie_gone gone
  have e1 := p_check_lot (prim := prim) (n := n - 1) K.2.1 (by omega) hf
  have e2 := p_check_person (prim := prim) (n := n - 1) K.2.2.1 (by omega) hp
  have e3 := p_taken_in (n := n - 1) P K.2.2.2.1 (by omega) h hf.asc.nodup hf.lt
  by_cases h1 : p ∈ f ∨ p ∉ tk c f
  · rw [if_pos h1]
    simp only [exec_cons', exec_expr, ev_call', evs_cons', evs_nil']
    simp [e1, e2, e3, h1]
  · rw [if_neg h1]
    obtain ⟨r, er, hr⟩ := exec_for_inv (F := callF prim fs (n - 1)) (tg := .one 3) (it := .attr (.var 0) "ties") (b := .cons (.ite (.op .notin (.var 2) (.call "taken_in" (.cons (.call "less_tie" (.cons (.var 0) (.cons (.var 3) .nil))) (.cons (.var 1) .nil)))) (.cons (.ret (.var 3)) .nil) .nil) .nil)
      (env := [some (crD c), some (.tup (f.map natD)), some (.int p), none]) tieD c.ts
      (fun rest env => ∃ x pre, c.ts = pre ++ rest ∧ (∀ t ∈ pre, p ∈ tk (lessT c t) f) ∧ env = [some (crD c), some (.tup (f.map natD)), some (.int p), x])
      (fun r => (∃ x, r = .nx [some (crD c), some (.tup (f.map natD)), some (.int p), x] ∧ c.ts.find? (fun t => !decide (p ∈ tk (lessT c t) f)) = none) ∨
        (∃ t e, r = .rt (tieD t) e ∧ c.ts.find? (fun t => !decide (p ∈ tk (lessT c t) f)) = some t))
      (by simp) rfl (fun t rest env _ hI => by
        obtain ⟨x, pre, hpre, hall, rfl⟩ := hI
        have e4 := p_less_tie (n := n - 1) P K.2.2.2.2 (by omega) h t
        have e5 := p_taken_in (n := n - 1) P K.2.2.2.1 (by omega) (lessT_ok h t) hf.asc.nodup hf.lt
        simp at e4
        by_cases h2 : p ∈ tk (lessT c t) f
        · refine ⟨_, by simp; rfl, .nx [some (crD c), some (.tup (f.map natD)), some (.int p), some (tieD t)], by simp [e4, e5, h2], some (tieD t), pre ++ [t], by rw [hpre]; simp, fun u hu => ?_, rfl⟩
          rcases List.mem_append.mp hu with z | z
          · exact hall u z
          · rw [List.mem_singleton.mp z]; exact h2
        · refine ⟨_, by simp; rfl, .rt (tieD t) [some (crD c), some (.tup (f.map natD)), some (.int p), some (tieD t)], by simp [e4, e5, h2], .inr ⟨t, _, rfl, ?_⟩⟩
          rw [hpre]
          exact find_split (fun u hu => by simp [hall u hu]) (by simp [h2]))
      (fun e hI => by
        obtain ⟨x, pre, hpre, hall, rfl⟩ := hI
        rw [List.append_nil] at hpre
        subst hpre
        exact .inl ⟨x, rfl, List.find?_eq_none.mpr fun t ht => by simp [hall t ht]⟩)
      ⟨none, [], rfl, by simp, rfl⟩
    have h1' := h1
    simp at h1'
    rcases hr with ⟨x, rfl, hr⟩ | ⟨t, e, rfl, hr⟩
    · simp [e1, e2, e3, h1', er, hr]
    · simp [e1, e2, e3, h1', er, hr]
theorem p_needs_more (P : PrimH prim) (K : K_needs_more fs) (hn : 6 ≤ n) {c : Cr} (h : c.Ok) {f : List Nat} (hf : IsLot c.n f) {p : Nat} (hp : p < c.n) {m : Nat} (hm : m ≤ 9) (h1 : p ∉ f → ∀ k, k < m → p ∈ tk (setN c p k) f) (h2 : p ∉ f → p ∉ tk (setN c p m) f) :
    callF prim fs n "needs_more" [crD c, .tup (f.map natD), .int p] = .ret (if p ∈ f then .non else .int m) := by
  rw [K.1.call (by omega) rfl [some (crD c), some (.tup (f.map natD)), some (.int p), none] rfl]
  unfold b_needs_more
  have e1 := p_check_lot (prim := prim) (n := n - 1) K.2.1 (by omega) hf
  have e2 := p_check_person (prim := prim) (n := n - 1) K.2.2.1 (by omega) hp
  by_cases h0 : p ∈ f
  · simp [e1, e2, h0]
  · obtain ⟨e, er, rfl⟩ := exec_while_nx (F := callF prim fs (n - 1)) (c := .op .isin (.var 2) (.call "taken_in" (.cons (.call "with_need" (.cons (.var 0) (.cons (.var 2) (.cons (.var 3) .nil)))) (.cons (.var 1) .nil)))) (b := .cons (.set (.one 3) (.op .add (.var 3) (.int 1))) .nil)
      (fun k env => ∃ j : Nat, k = m - j ∧ j ≤ m ∧ env = [some (crD c), some (.tup (f.map natD)), some (.int p), some (.int j)])
      (fun env => env = [some (crD c), some (.tup (f.map natD)), some (.int p), some (.int m)])
      (fun k env ⟨j, hk, hj, he⟩ => by
        subst he
        have e4 := p_with_need (n := n - 1) P K.2.2.2.2 (by omega) h hp (show j ≤ 9 by omega)
        have e5 := p_taken_in (n := n - 1) P K.2.2.2.1 (by omega) (setN_ok h (p := p) (show j ≤ 9 by omega)) hf.asc.nodup hf.lt
        by_cases hjm : j = m
        · subst hjm
          exact .inl ⟨by simp [e4, e5, h2 h0], rfl⟩
        · exact .inr ⟨by simp [e4, e5, h1 h0 j (by omega)], _, by simp; rfl, m - (j + 1), by omega, j + 1, rfl, by omega, by simp⟩)
      m [some (crD c), some (.tup (f.map natD)), some (.int p), some (.int (0 : Nat))] ⟨0, by omega, by omega, rfl⟩ (by omega)
    simp at er
    simp [e1, e2, h0, er]
theorem enum_tup {α : Type} (f : α → D) (l : List α) : enumD (.tup (l.map f)) = .ret (((List.range l.length).zip l).map fun p => D.tup [natD p.1, f p.2]) := by
  show T.ret ((List.range (l.map f).length).zipWith (fun k x => D.tup [D.int (k : Nat), x]) (l.map f)) = _
  rw [List.length_map, List.zipWith_map_right, ← List.map_uncurry_zip_eq_zipWith]
  rfl
theorem p__law_with_need (K : K__law_with_need fs) (hn : 1 ≤ n) {c : Cr} (hl : c.ns.length ≤ 1000) (p k : Nat) : callF prim fs n "_law_with_need" [partsD c, .int p, .int k] = .ret (partsD (setN c p k)) := by
  rw [K.call (by omega) rfl [some (partsD c), some (.int p), some (.int k), none, none, none] rfl]
  unfold b__law_with_need
  have e1 : ev (callF prim fs (n - 1)) (.lc (.many [4, 5]) [4, 5] (.enum (.ix (.var 0) (.int 2))) .nil (.ite (.op .eq (.var 4) (.var 1)) (.var 2) (.var 5))) [some (partsD c), some (.int p), some (.int k), none, none, none] = .ret (.lst (((c.ns.set p k)).map natD)) := by
    have e2 := ev_lcM (F := callF prim fs (n - 1)) (env := [some (partsD c), some (.int p), some (.int k), none, none, none]) (tg := .many [4, 5]) (own := [4, 5]) (it := .enum (.ix (.var 0) (.int 2))) (test := .nil) (elt := .ite (.op .eq (.var 4) (.var 1)) (.var 2) (.var 5)) (fun q : Nat × Nat => D.tup [natD q.1, natD q.2]) ((List.range c.ns.length).zip c.ns) (fun q => natD (if q.1 = p then k else q.2)) (by simp [enum_tup]) fun q hq => by
      by_cases h : q.1 = p <;> simp [h]
    rw [e2]
    congr 2
    have e3 : ((List.range c.ns.length).zip c.ns).map (fun q => if q.1 = p then k else q.2) = c.ns.set p k := by
      refine List.ext_getElem (by simp) fun i hi hj => ?_
      simp [List.getElem_set]
      by_cases h : p = i <;> simp [h, eq_comm]
    rw [← e3, List.map_map]
    rfl
  have e9 : partsD (setN c p k) = .tup [.int c.n, .tup (c.ts.map tieD), .tup ((c.ns.set p k).map natD)] := rfl
  rw [e9]
  simp [e1, mkTup]
theorem p__law_tie (K : K__law_tie fs) (hn : 3 ≤ n) {c : Cr} (h : c.Ok) {f : List Nat} (hf : IsLot c.n f) {p : Nat} (hp : p < c.n) : callF prim fs n "_law_tie" [partsD c, .tup (f.map natD), .int p] = .ret (optD tieD (gone c f p)) := by
  rw [K.1.call (by omega) rfl [some (partsD c), some (.tup (f.map natD)), some (.int p), none, none, none] rfl]
  unfold b__law_tie gone
  have h9 := h.n9
  have e3 := p__law_taken (prim := prim) (n := n - 1) K.2 (by omega) (by omega) h.nl hf.asc.nodup hf.lt
  by_cases h1 : p ∈ f ∨ p ∉ tk c f
  · rw [if_pos h1]
    simp [e3, h1]
  · rw [if_neg h1]
    have e1 : ∀ t x y, ev (callF prim fs (n - 1)) (.lc (.one 5) [5] (.ix (.var 0) (.int 1)) (.op .ne (.var 5) (.var 3)) (.var 5)) [some (partsD c), some (.tup (f.map natD)), some (.int p), some (tieD t), x, y] = .ret (.lst ((lessT c t).ts.map tieD)) := fun t x y => by
      refine ev_lcF tieD c.ts _ _ (by simp) fun u hu => ?_
      obtain ⟨a, b⟩ := u
      obtain ⟨a', b'⟩ := t
      by_cases h1 : a = a' <;> by_cases h2 : b = b' <;> simp [h1, h2]
    obtain ⟨r, er, hr⟩ := exec_for_inv (F := callF prim fs (n - 1)) (tg := .one 3) (it := .ix (.var 0) (.int 1)) (b := .cons (.set (.one 4) (.tup (.cons (.ix (.var 0) (.int 0)) (.cons (.blt .tuple (.cons (.lc (.one 5) [5] (.ix (.var 0) (.int 1)) (.op .ne (.var 5) (.var 3)) (.var 5)) .nil)) (.cons (.ix (.var 0) (.int 2)) .nil))))) (.cons (.ite (.op .notin (.var 2) (.call "_law_taken" (.cons (.var 4) (.cons (.var 1) .nil)))) (.cons (.ret (.var 3)) .nil) .nil) .nil))
      (env := [some (partsD c), some (.tup (f.map natD)), some (.int p), none, none, none]) tieD c.ts
      (fun rest env => ∃ x y z pre, c.ts = pre ++ rest ∧ (∀ t ∈ pre, p ∈ tk (lessT c t) f) ∧ env = [some (partsD c), some (.tup (f.map natD)), some (.int p), x, y, z])
      (fun r => (∃ e, r = .nx e ∧ e.length = 6 ∧ c.ts.find? (fun t => !decide (p ∈ tk (lessT c t) f)) = none) ∨
        (∃ t e, r = .rt (tieD t) e ∧ c.ts.find? (fun t => !decide (p ∈ tk (lessT c t) f)) = some t))
      (by simp) rfl (fun t rest env _ hI => by
        obtain ⟨x, y, z, pre, hpre, hall, rfl⟩ := hI
        have e4 := e1 t y z
        have h' := lessT_ok h t
        have e5 := p__law_taken (prim := prim) (n := n - 1) (c := lessT c t) K.2 (by omega) (by simp; omega) h'.nl hf.asc.nodup hf.lt
        have e9 : partsD (lessT c t) = .tup [.int c.n, .tup ((lessT c t).ts.map tieD), .tup (c.ns.map natD)] := rfl
        rw [e9] at e5
        simp at e4
        by_cases h2 : p ∈ tk (lessT c t) f
        · refine ⟨_, by simp; rfl, .nx [some (partsD c), some (.tup (f.map natD)), some (.int p), some (tieD t), some (partsD (lessT c t)), z], by simp [e4, e5, e9, mkTup, h2], some (tieD t), _, _, pre ++ [t], by rw [hpre]; simp, fun u hu => ?_, rfl⟩
          rcases List.mem_append.mp hu with z | z
          · exact hall u z
          · rw [List.mem_singleton.mp z]; exact h2
        · refine ⟨_, by simp; rfl, .rt (tieD t) [some (partsD c), some (.tup (f.map natD)), some (.int p), some (tieD t), some (partsD (lessT c t)), z], by simp [e4, e5, e9, mkTup, h2], .inr ⟨t, _, rfl, ?_⟩⟩
          rw [hpre]
          exact find_split (fun u hu => by simp [hall u hu]) (by simp [h2]))
      (fun e hI => by
        obtain ⟨x, y, z, pre, hpre, hall, rfl⟩ := hI
        rw [List.append_nil] at hpre
        subst hpre
        exact .inl ⟨_, rfl, rfl, List.find?_eq_none.mpr fun t ht => by simp [hall t ht]⟩)
      ⟨none, none, none, [], rfl, by simp, rfl⟩
    have h1' := h1
    simp at h1'
    rcases hr with ⟨e, rfl, _, hr⟩ | ⟨t, e, rfl, hr⟩
    · simp [e3, h1', er, hr]
    · simp [e3, h1', er, hr]
theorem p__law_need_right (P : PrimH prim) (K : K__law_need_right fs) (hn : 7 ≤ n) {c : Cr} (h : c.Ok) {f : List Nat} (hf : IsLot c.n f) {p : Nat} (hp : p < c.n) {m : Nat} (hm : m = cnt c (tk (setN c p 9) f) p + 1) (h1 : p ∉ f → p ∉ tk (setN c p m) f) (h2 : p ∉ f → p ∈ tk (setN c p (m - 1)) f) :
    callF prim fs n "_law_need_right" [partsD c, .tup (f.map natD), .int p, if p ∈ f then .non else .int m] = .ret (.bl true) := by
  rw [K.1.call (by omega) rfl [some (partsD c), some (.tup (f.map natD)), some (.int p), some (if p ∈ f then .non else .int m), none, none, none] rfl]
  unfold b__law_need_right
  have h9 := h.n9
  by_cases h0 : p ∈ f
  · simp [h0]
  · have e1 := p__law_with_need (prim := prim) (n := n - 1) K.2.2.1 (by omega) (c := c) (by rw [h.nl]; omega) p 9
    have o9 := setN_ok h (p := p) (show 9 ≤ 9 by omega)
    have e2 := p__law_taken (prim := prim) (n := n - 1) (c := setN c p 9) K.2.1 (by omega) (by simp; omega) o9.nl hf.asc.nodup hf.lt
    have e3 := p__law_besides (prim := prim) (n := n - 1) (c := c) K.2.1.2.1 (by omega) (by omega)
    have e4 : ev (callF prim fs (n - 1)) (.lc (.one 6) [6] (.ix (.call "_law_besides" (.cons (.var 0) .nil)) (.var 2)) (.op .isin (.var 6) (.var 4)) (.var 6)) [some (partsD c), some (.tup (f.map natD)), some (.int p), some (.int m), some (.tup ((tk (setN c p 9) f).map natD)), none, none] = .ret (.lst (((nbs c p).filter fun b => decide (b ∈ tk (setN c p 9) f)).map natD)) := by
      refine ev_lcF natD (nbs c p) _ _ ?_ fun b hb => by simp
      have i1 : ixD (.lst ((List.range c.n).map (rowL c))) (.int (p : Nat)) = .ret (rowL c p) := by
        rw [ix_get (xs := (List.range c.n).map (rowL c)) rfl (fun _ e => by cases e) (by simpa using hp)]
        simp
      simp [e3, i1, rowL]
    have hm8 := cnt_le8 h hp (tk (setN c p 9) f)
    have hlen : ((nbs c p).filter fun b => decide (b ∈ tk (setN c p 9) f)).length + 1 = m := hm.symm
    obtain ⟨j, rfl⟩ : ∃ j, m = j + 1 := ⟨m - 1, by omega⟩
    have hlen' : ((nbs c p).filter fun b => decide (b ∈ tk (setN c p 9) f)).length = j := by omega
    have e5 := p__law_is (prim := prim) (n := n - 1) natD K.2.2.2.1 (by omega) (j + 1) (j + 1)
    have e6 := p__law_with_need (prim := prim) (n := n - 1) K.2.2.1 (by omega) (c := c) (by rw [h.nl]; omega) p (j + 1)
    have e7 := p__law_with_need (prim := prim) (n := n - 1) K.2.2.1 (by omega) (c := c) (by rw [h.nl]; omega) p j
    have oA := setN_ok h (p := p) (show j + 1 ≤ 9 by omega)
    have oB := setN_ok h (p := p) (show j ≤ 9 by omega)
    have e8 := p__law_made (n := n - 1) P K.2.2.2.2.2 (by omega) oA
    have e9 := p__law_made (n := n - 1) P K.2.2.2.2.2 (by omega) oB
    have e10 := p_taken (n := n - 1) (c := setN c p (j + 1)) P K.2.2.2.2.1 (by omega) oA hf
    have e11 := p_taken (n := n - 1) (c := setN c p j) P K.2.2.2.2.1 (by omega) oB hf
    have h1' := h1 h0
    have h2' := h2 h0
    rw [Nat.add_sub_cancel] at h2'
    simp only [natD_eq, decide_true] at e5
    rw [show ((j + 1 : Nat) : Int) = (j : Int) + 1 by omega] at e4 e5 e6
    rw [show ((9 : Nat) : Int) = 9 from rfl] at e1
    simp [h0, e1, e2, e4, hlen', e5, e6, e7, e8, e9, e10, e11, h1', h2']
end
end Fm


/-! FpG: lots of lots. -/
namespace Fm
open PySem PySem.Spec PyProof.Rows L2
/- others_of: 0 crowd, 1 lot, 2 person, -/
def b_others_of : S :=
 (.cons (.ret (.blt .tuple (.cons (.lc (.one 2) [2] (.rng1 (.attr (.var 0) "persons")) (.op .notin (.var 2) (.var 1)) (.var 2)) .nil)))
 .nil)

/- all_lots: 0 crowd, 1 found, 2 person, 3 size, 4 lot, -/
def b_all_lots : S :=
 (.cons (.set (.one 1) (.lst (.cons (.tup .nil) .nil)))
 (.cons (.for_ (.one 2) (.rng1 (.attr (.var 0) "persons"))
 (.cons (.set (.one 1) (.op .add (.var 1) (.lc (.one 4) [4] (.var 1) .nil (.op .add (.var 4) (.tup (.cons (.var 2) .nil))))))
 .nil))
 (.cons (.ret (.lc (.many [3, 4]) [3, 4] (.blt .sorted (.cons (.lc (.one 4) [4] (.var 1) .nil (.tup (.cons (.blt .len (.cons (.var 4) .nil)) (.cons (.var 4) .nil)))) .nil)) .nil (.var 4)))
 .nil)))

/- has_within: 0 lot, 1 lots, 2 less, 3 person, -/
def b_has_within : S :=
 (.cons (.ret (.blt .any (.cons (.lc (.one 2) [2] (.var 1) .nil (.blt .all (.cons (.lc (.one 3) [3] (.var 2) .nil (.op .isin (.var 3) (.var 0))) .nil))) .nil)))
 .nil)

/- meets: 0 lot, 1 lots, 2 other, 3 person, -/
def b_meets : S :=
 (.cons (.ret (.blt .all (.cons (.lc (.one 2) [2] (.var 1) .nil (.blt .any (.cons (.lc (.one 3) [3] (.var 2) .nil (.op .isin (.var 3) (.var 0))) .nil))) .nil)))
 .nil)

/- least_of: 0 lots, 1 found, 2 lot, -/
def b_least_of : S :=
 (.cons (.set (.one 1) (.lst .nil))
 (.cons (.for_ (.one 2) (.var 0)
 (.cons (.ite (.nt (.call "has_within" (.cons (.var 2) (.cons (.var 1) .nil))))
 (.cons (.app 1 (.var 2))
 .nil)
 .nil)
 .nil))
 (.cons (.ret (.blt .tuple (.cons (.blt .sorted (.cons (.var 1) .nil)) .nil)))
 .nil)))

/- keeps_out: 0 crowd, 1 lot, 2 person, 3 one, -/
def b_keeps_out : S :=
 (.cons (.for_ (.one 2) (.var 1)
 (.cons (.ite (.op .ge (.blt .len (.cons (.lc (.one 3) [3] (.ix (.call "besides" (.cons (.var 0) .nil)) (.var 2)) (.op .notin (.var 3) (.var 1)) (.var 3)) .nil)) (.ix (.attr (.var 0) "needs") (.var 2)))
 (.cons (.ret (.bl false))
 .nil)
 .nil)
 .nil))
 (.cons (.ret (.bl true))
 .nil))

abbrev K_others_of (fs : List DefS) : Prop := HasB fs "others_of" 2 3 b_others_of
abbrev K_all_lots (fs : List DefS) : Prop := HasB fs "all_lots" 1 5 b_all_lots
abbrev K_has_within (fs : List DefS) : Prop := HasB fs "has_within" 2 4 b_has_within
abbrev K_meets (fs : List DefS) : Prop := HasB fs "meets" 2 4 b_meets
abbrev K_least_of (fs : List DefS) : Prop := HasB fs "least_of" 1 3 b_least_of ∧ K_has_within fs
abbrev K_keeps_out (fs : List DefS) : Prop := HasB fs "keeps_out" 2 4 b_keeps_out ∧ K_besides fs
def sizeD (p : Nat × List Nat) : D := .tup [.int p.1, .tup (p.2.map natD)]
instance : NoC sizeD := ⟨fun _ => rfl⟩
@[simp] theorem sizeD_eq (p : Nat × List Nat) : sizeD p = .tup [.int p.1, .tup (p.2.map natD)] := rfl
theorem cmps_nat : ∀ a b : List Nat, D.cmps (a.map natD) (b.map natD) = cmpL a b
  | [], [] => rfl
  | [], _ :: _ => rfl
  | _ :: _, [] => rfl
  | x :: xs, y :: ys => by
    show (D.cmp (.int x) (.int y)).then (D.cmps (xs.map natD) (ys.map natD)) = (compare x y).then (cmpL xs ys)
    rw [cmp_nat, cmps_nat xs ys]
theorem le_lot (a b : List Nat) : D.le (lotD a) (lotD b) = leL a b := by
  show (D.cmps (a.map natD) (b.map natD) != .gt) = _
  rw [cmps_nat]
  rfl
theorem le_size (a b : Nat × List Nat) : D.le (sizeD a) (sizeD b) = leSL a b := by
  have e : D.cmp (sizeD a) (sizeD b) = (compare a.1 b.1).then ((cmpL a.2 b.2).then .eq) := by
    show (D.cmp (.int a.1) (.int b.1)).then ((D.cmps (a.2.map natD) (b.2.map natD)).then .eq) = _
    rw [cmp_nat, cmps_nat]
  unfold D.le leSL leL
  rw [e]
  rcases cmpN_cases a.1 b.1 with ⟨h, h2⟩ | ⟨h, h2⟩ | ⟨h, h2⟩
  · rw [h2, decide_eq_true h]
    rfl
  · rw [h2, decide_eq_false (by omega), decide_eq_true h]
    cases cmpL a.2 b.2 <;> rfl
  · rw [h2, decide_eq_false (by omega), decide_eq_false (by omega)]
    rfl
theorem keyd_lot (a : List Nat) (n : Nat) : D.keyd (n + 2) (lotD a) = true := by
  show (a.map natD).all (D.keyd (n + 1)) = true
  rw [List.all_eq_true]
  intro x hx
  obtain ⟨y, _, rfl⟩ := List.mem_map.mp hx
  rfl
theorem cpb_lot (a b : List Nat) (n : Nat) : D.cpb (n + 2) (lotD a) (lotD b) = true := by
  show (((a.map natD).zip (b.map natD)).all fun p => D.cpb (n + 1) p.1 p.2) = true
  rw [List.all_eq_true]
  intro p hp
  obtain ⟨h1, h2⟩ := List.of_mem_zip (show (p.1, p.2) ∈ _ from hp)
  obtain ⟨x, _, e1⟩ := List.mem_map.mp h1
  obtain ⟨y, _, e2⟩ := List.mem_map.mp h2
  rw [← e1, ← e2]
  rfl
theorem canSort_code {α : Type} {f : α → D} (h1 : ∀ a, D.keyd 8 (f a) = true) (h2 : ∀ a b, D.cpb 8 (f a) (f b) = true) (l : List α) : canSort (l.map f) = true := by
  unfold canSort
  rw [Bool.and_eq_true, List.all_eq_true, List.all_eq_true]
  refine ⟨fun x hx => ?_, fun x hx => ?_⟩
  · obtain ⟨a, _, rfl⟩ := List.mem_map.mp hx
    exact h1 a
  · obtain ⟨a, _, rfl⟩ := List.mem_map.mp hx
    rw [List.all_eq_true]
    intro y hy
    obtain ⟨b, _, rfl⟩ := List.mem_map.mp hy
    exact h2 a b
theorem sorted_code {α : Type} {f : α → D} {le : α → α → Bool} (h1 : ∀ a, D.keyd 8 (f a) = true) (h2 : ∀ a b, D.cpb 8 (f a) (f b) = true) (h3 : ∀ a b, D.le (f a) (f b) = le a b) {l : List α} (hl : l.length ≤ 1000) {d : D} (hd : d.its = some (l.map f)) : bltin .sorted [d] = .ret (.lst ((sortG le l).map f)) := by
  have e : bltin .sorted [d] = (match d.its with | some xs => if (canSort xs && decide (xs.length ≤ maxL)) = true then T.ret (D.lst (sortD xs)) else T.bad | none => T.bad) := by cases d <;> rfl
  rw [e, hd]
  show (if (canSort (l.map f) && decide ((l.map f).length ≤ maxL)) = true then T.ret (D.lst (sortD (l.map f))) else T.bad) = _
  rw [canSort_code h1 h2, Bool.true_and, sortD_map h3, List.length_map, if_pos (decide_eq_true (by rw [maxL_eq]; omega))]
theorem sorted_lots {l : List (List Nat)} (hl : l.length ≤ 1000) {d : D} (hd : d.its = some (l.map lotD)) : bltin .sorted [d] = .ret (.lst ((sortG leL l).map lotD)) :=
  sorted_code (fun a => keyd_lot a 6) (fun a b => cpb_lot a b 6) le_lot hl hd
theorem sorted_sizes {l : List (Nat × List Nat)} (hl : l.length ≤ 1000) {d : D} (hd : d.its = some (l.map sizeD)) : bltin .sorted [d] = .ret (.lst ((sortG leSL l).map sizeD)) :=
  sorted_code (fun a => by
    show (true && (D.keyd 7 (lotD a.2) && true)) = true
    rw [keyd_lot a.2 5]
    rfl) (fun a b => by
    show (true && (D.cpb 7 (lotD a.2) (lotD b.2) && true)) = true
    rw [cpb_lot a.2 b.2 5]
    rfl) le_size hl hd
section
variable {prim : Fns} {fs : List DefS} {n : Nat}
theorem p_others_of (K : K_others_of fs) (hn : 1 ≤ n) {c : Cr} (h : c.n ≤ 100) (l : List Nat) : callF prim fs n "others_of" [crD c, .tup (l.map natD)] = .ret (.tup ((others c.n l).map natD)) := by
  rw [K.call (by omega) rfl [some (crD c), some (.tup (l.map natD)), none] rfl]
  unfold b_others_of
  have e1 : ev (callF prim fs (n - 1)) (.lc (.one 2) [2] (.rng1 (.attr (.var 0) "persons")) (.op .notin (.var 2) (.var 1)) (.var 2)) [some (crD c), some (.tup (l.map natD)), none] = .ret (.lst ((others c.n l).map natD)) := by
    refine ev_lcF natD (List.range c.n) _ _ (by simp [rng1_nat (show c.n ≤ 1000 by omega)]) fun a ha => by simp
  simp [e1]
def sAllLots (en : E) : S :=
 (.cons (.set (.one 1) (.lst (.cons (.tup .nil) .nil)))
 (.cons (.for_ (.one 2) (.rng1 en)
 (.cons (.set (.one 1) (.op .add (.var 1) (.lc (.one 4) [4] (.var 1) .nil (.op .add (.var 4) (.tup (.cons (.var 2) .nil))))))
 .nil))
 (.cons (.ret (.lc (.many [3, 4]) [3, 4] (.blt .sorted (.cons (.lc (.one 4) [4] (.var 1) .nil (.tup (.cons (.blt .len (.cons (.var 4) .nil)) (.cons (.var 4) .nil)))) .nil)) .nil (.var 4)))
 .nil)))
theorem pow_le {a : Nat} (h : a ≤ 9) : 2 ^ a ≤ 512 := by
  have : 2 ^ a ≤ 2 ^ 9 := Nat.pow_le_pow_right (by omega) h
  simpa using this
theorem all_lots_val {F : Fns} {en : E} {x0 : D} {m : Nat} (hm : m ≤ 9) (he : ∀ env, ev F en (some x0 :: env) = .ret (.int m)) : finR (exec F (sAllLots en) [some x0, none, none, none, none]) = .ret (.cell ((allLots m).map lotD)) := by
  unfold sAllLots
  obtain ⟨e, e1, x, q, hq, rfl⟩ := exec_for_nx (F := F) (tg := .one 2) (it := .rng1 en) (b := .cons (.set (.one 1) (.op .add (.var 1) (.lc (.one 4) [4] (.var 1) .nil (.op .add (.var 4) (.tup (.cons (.var 2) .nil)))))) .nil)
    (env := [some x0, some (.cell [.tup []]), none, none, none]) natD (List.range m)
    (fun rest env => ∃ (x : Option D) (q : List Nat), List.range m = q ++ rest ∧ env = [some x0, some (.cell ((subs q.length).map lotD)), x, none, none])
    (by simp [he, rng1_nat (show m ≤ 1000 by omega)]) rfl
    (fun a rest env _ hI => by
      obtain ⟨x, q, hq, rfl⟩ := hI
      obtain ⟨hq2, ham⟩ := range_split hq
      have hql : q.length = a := by rw [hq2]; simp
      have hp := pow_le (show a ≤ 9 by omega)
      have e3 : ev F (.lc (.one 4) [4] (.var 1) .nil (.op .add (.var 4) (.tup (.cons (.var 2) .nil)))) [some x0, some (.cell ((subs a).map lotD)), some (.int a), none, none] = .ret (.lst (((subs a).map (· ++ [a])).map lotD)) := by
        rw [List.map_map]
        refine ev_lcM lotD (subs a) _ (by simp) fun s hs => ?_
        have l1 : s.length + 1 ≤ maxL := by have := (mem_subs.mp hs).len; rw [maxL_eq]; omega
        simp [mkTup, l1]
      have l2 : (subs a).length + (subs a).length ≤ maxL := by rw [subs_len, maxL_eq]; omega
      rw [hql]
      refine ⟨_, by simp; rfl, [some x0, some (.cell ((subs (a + 1)).map lotD)), some (.int a), none, none], ?_, some (.int a), q ++ [a], by rw [hq]; simp, by simp [hql]⟩
      have e4 : (subs (a + 1)).map lotD = (subs a).map lotD ++ ((subs a).map (· ++ [a])).map lotD := by
        show (subs a ++ (subs a).map (· ++ [a])).map lotD = _
        rw [List.map_append]
      rw [e4]
      simp at e3
      simp [e3, l2])
    ⟨none, [], rfl, rfl⟩
  rw [List.append_nil] at hq
  have hql : q.length = m := by rw [← hq]; simp
  rw [hql] at e1
  have hp := pow_le hm
  have e5 : ev F (.lc (.one 4) [4] (.var 1) .nil (.tup (.cons (.blt .len (.cons (.var 4) .nil)) (.cons (.var 4) .nil)))) [some x0, some (.cell ((subs m).map lotD)), x, none, none] = .ret (.lst (((subs m).map fun l => (l.length, l)).map sizeD)) := by
    rw [List.map_map]
    refine ev_lcM lotD (subs m) _ (by simp) fun s hs => ?_
    simp [mkTup]
  have e6 := sorted_sizes (l := (subs m).map fun l => (l.length, l)) (by rw [List.length_map, subs_len]; omega) (d := .lst (((subs m).map fun l => (l.length, l)).map sizeD)) rfl
  have e7 : ev F (.lc (.many [3, 4]) [3, 4] (.blt .sorted (.cons (.lc (.one 4) [4] (.var 1) .nil (.tup (.cons (.blt .len (.cons (.var 4) .nil)) (.cons (.var 4) .nil)))) .nil)) .nil (.var 4)) [some x0, some (.cell ((subs m).map lotD)), x, none, none] = .ret (.lst ((allLots m).map lotD)) := by
    unfold allLots
    rw [List.map_map]
    refine ev_lcM sizeD (sortG leSL ((subs m).map fun l => (l.length, l))) _ ?_ fun s hs => ?_
    · simp only [ev_blt, evs_cons', evs_nil', e5, ret_bind, e6, itsT_lst]
    · simp
  simp [mkLst, mkTup, e1, e7]
theorem p_all_lots (K : K_all_lots fs) (hn : 1 ≤ n) {c : Cr} (h : c.n ≤ 9) : callF prim fs n "all_lots" [crD c] = .ret (.cell ((allLots c.n).map lotD)) := by
  rw [K.call (by omega) rfl [some (crD c), none, none, none, none] rfl]
  exact all_lots_val (en := .attr (.var 0) "persons") h fun env => by simp
/-! within, meeting -/
theorem p_has_within (K : K_has_within fs) (hn : 1 ≤ n) (l : List Nat) (f : List (List Nat)) {fd : D} (hf : fd.its = some (f.map lotD)) (hc : fd.isCell = false) : callF prim fs n "has_within" [.tup (l.map natD), fd] = .ret (.bl (hasWithin l f)) := by
  rw [K.call (by omega) rfl [some (.tup (l.map natD)), some fd, none, none] rfl]
  unfold b_has_within hasWithin
  have e1 : ev (callF prim fs (n - 1)) (.lc (.one 2) [2] (.var 1) .nil (.blt .all (.cons (.lc (.one 3) [3] (.var 2) .nil (.op .isin (.var 3) (.var 0))) .nil))) [some (.tup (l.map natD)), some fd, none, none] = .ret (.lst (f.map fun a => .bl (within a l))) := by
    refine ev_lcM lotD f _ (by simp [itsT, hf]) fun a ha => ?_
    have e2 : ev (callF prim fs (n - 1)) (.lc (.one 3) [3] (.var 2) .nil (.op .isin (.var 3) (.var 0))) [some (.tup (l.map natD)), some fd, some (lotD a), none] = .ret (.lst (a.map fun x => .bl (decide (x ∈ l)))) :=
      ev_lcM natD a _ (by simp) fun x hx => by simp
    simp at e2
    simp [e2, within]
  simp [e1]
theorem p_meets (K : K_meets fs) (hn : 1 ≤ n) (l : List Nat) (f : List (List Nat)) {fd : D} (hf : fd.its = some (f.map lotD)) (hc : fd.isCell = false) : callF prim fs n "meets" [.tup (l.map natD), fd] = .ret (.bl (meetsB l f)) := by
  rw [K.call (by omega) rfl [some (.tup (l.map natD)), some fd, none, none] rfl]
  unfold b_meets meetsB
  have e1 : ev (callF prim fs (n - 1)) (.lc (.one 2) [2] (.var 1) .nil (.blt .any (.cons (.lc (.one 3) [3] (.var 2) .nil (.op .isin (.var 3) (.var 0))) .nil))) [some (.tup (l.map natD)), some fd, none, none] = .ret (.lst (f.map fun a => .bl (a.any fun x => decide (x ∈ l)))) := by
    refine ev_lcM lotD f _ (by simp [itsT, hf]) fun a ha => ?_
    have e2 : ev (callF prim fs (n - 1)) (.lc (.one 3) [3] (.var 2) .nil (.op .isin (.var 3) (.var 0))) [some (.tup (l.map natD)), some fd, some (lotD a), none] = .ret (.lst (a.map fun x => .bl (decide (x ∈ l)))) :=
      ev_lcM natD a _ (by simp) fun x hx => by simp
    simp at e2
    simp [e2]
  simp [e1]
theorem leastGo_len : ∀ (r : List (List Nat)), (leastGo r.reverse).length ≤ r.length
  | [] => by simp [leastGo]
  | l :: r => by
    rw [List.reverse_cons, leastGo_snoc]
    have := leastGo_len r
    split
    · simp; omega
    · simp; omega
theorem leastGo_le (l : List (List Nat)) : (leastGo l).length ≤ l.length := by
  have := leastGo_len l.reverse
  rwa [List.reverse_reverse, List.length_reverse] at this
theorem p_least_of (K : K_least_of fs) (hn : 2 ≤ n) (lots : List (List Nat)) (hl : lots.length ≤ 1000) : callF prim fs n "least_of" [.lst (lots.map lotD)] = .ret (.tup ((leastOf lots).map lotD)) := by
  rw [K.1.call (by omega) rfl [some (.lst (lots.map lotD)), none, none] rfl]
  unfold b_least_of leastOf
  obtain ⟨e, e1, x, q, hq, rfl⟩ := exec_for_nx (F := callF prim fs (n - 1)) (tg := .one 2) (it := .var 0) (b := .cons (.ite (.nt (.call "has_within" (.cons (.var 2) (.cons (.var 1) .nil)))) (.cons (.app 1 (.var 2)) .nil) .nil) .nil)
    (env := [some (.lst (lots.map lotD)), some (.cell []), none]) lotD lots
    (fun rest env => ∃ (x : Option D) (q : List (List Nat)), lots = q ++ rest ∧ env = [some (.lst (lots.map lotD)), some (.cell ((leastGo q).map lotD)), x])
    (by simp) rfl
    (fun a rest env _ hI => by
      obtain ⟨x, q, hq, rfl⟩ := hI
      have hlen : q.length ≤ lots.length := by rw [hq]; simp
      have h1 := leastGo_le q
      have l1 : (leastGo q).length < maxL := by rw [maxL_eq]; omega
      have e3 := p_has_within (prim := prim) (n := n - 1) K.2 (by omega) a (leastGo q) (fd := .lst ((leastGo q).map lotD)) rfl rfl
      refine ⟨_, by simp; rfl, [some (.lst (lots.map lotD)), some (.cell ((leastGo (q ++ [a])).map lotD)), some (lotD a)], ?_, some (lotD a), q ++ [a], by rw [hq]; simp, rfl⟩
      rw [leastGo_snoc]
      cases hw : hasWithin a (leastGo q) with
      | true =>
        rw [hw] at e3
        simp [e3]
      | false =>
        rw [hw] at e3
        simp [e3, l1])
    ⟨none, [], rfl, by simp [leastGo]⟩
  rw [List.append_nil] at hq
  subst hq
  have h1 := leastGo_le lots
  have e6 := sorted_lots (l := leastGo lots) (by omega) (d := .cell ((leastGo lots).map lotD)) rfl
  simp [mkLst, e1, e6]
theorem p_keeps_out (P : PrimH prim) (K : K_keeps_out fs) (hn : 1 ≤ n) {c : Cr} (h : c.Ok) {l : List Nat} (hl : IsLot c.n l) : callF prim fs n "keeps_out" [crD c, .tup (l.map natD)] = .ret (.bl (keepsOut c l)) := by
  rw [K.1.call (by omega) rfl [some (crD c), some (.tup (l.map natD)), none, none] rfl]
  unfold b_keeps_out keepsOut
  have e1 := p_besides (n := n - 1) P K.2 h
  obtain ⟨r, er, hr⟩ := exec_for_inv (F := callF prim fs (n - 1)) (tg := .one 2) (it := .var 1) (b := .cons (.ite (.op .ge (.blt .len (.cons (.lc (.one 3) [3] (.ix (.call "besides" (.cons (.var 0) .nil)) (.var 2)) (.op .notin (.var 3) (.var 1)) (.var 3)) .nil)) (.ix (.attr (.var 0) "needs") (.var 2))) (.cons (.ret (.bl false)) .nil) .nil) .nil)
    (env := [some (crD c), some (.tup (l.map natD)), none, none]) natD l
    (fun rest env => ∃ (x : Option D) (q : List Nat), l = q ++ rest ∧ (∀ p ∈ q, ¬ need c p ≤ cntOut c l p) ∧ env = [some (crD c), some (.tup (l.map natD)), x, none])
    (fun r => (∃ x, r = .nx [some (crD c), some (.tup (l.map natD)), x, none] ∧ ∀ p ∈ l, ¬ need c p ≤ cntOut c l p) ∨ (∃ e, r = .rt (.bl false) e ∧ ∃ p ∈ l, need c p ≤ cntOut c l p))
    (by simp) rfl
    (fun p rest env _ hI => by
      obtain ⟨x, q, hq, hall, rfl⟩ := hI
      have hpl : p ∈ l := by rw [hq]; simp
      have hp := hl.lt p hpl
      have e2 : ixD (.tup ((List.range c.n).map (rowD c))) (.int (p : Nat)) = .ret (.tup ((nbs c p).map natD)) := by
        rw [ix_tup (by simpa using hp)]
        simp [rowD]
      have e3 : ev (callF prim fs (n - 1)) (.lc (.one 3) [3] (.ix (.call "besides" (.cons (.var 0) .nil)) (.var 2)) (.op .notin (.var 3) (.var 1)) (.var 3)) [some (crD c), some (.tup (l.map natD)), some (.int p), none] = .ret (.lst (((nbs c p).filter fun b => !decide (b ∈ l)).map natD)) :=
        ev_lcF natD (nbs c p) _ _ (by simp [e1, e2]) fun b hb => by simp
      have e4 := need_eq h.nl hp
      by_cases hc : need c p ≤ cntOut c l p
      · have hc' := hc
        unfold cntOut at hc'
        exact ⟨_, by simp; rfl, .rt (.bl false) [some (crD c), some (.tup (l.map natD)), some (.int p), none], by simp [e3, e4, hc'], .inr ⟨_, rfl, p, hpl, hc⟩⟩
      · have hc' := hc
        unfold cntOut at hc'
        refine ⟨_, by simp; rfl, .nx [some (crD c), some (.tup (l.map natD)), some (.int p), none], by simp [e3, e4, hc'], some (.int p), q ++ [p], by rw [hq]; simp, fun y hy => ?_, rfl⟩
        rcases List.mem_append.mp hy with z | z
        · exact hall y z
        · rw [List.mem_singleton.mp z]; exact hc)
    (fun e hI => by
      obtain ⟨x, q, hq, hall, rfl⟩ := hI
      rw [List.append_nil] at hq
      subst hq
      exact .inl ⟨x, rfl, hall⟩)
    ⟨none, [], rfl, by simp, rfl⟩
  rcases hr with ⟨x, rfl, hr⟩ | ⟨e, rfl, p, hpl, hp⟩
  · have : (l.all fun p => !decide (need c p ≤ cntOut c l p)) = true := by
      rw [List.all_eq_true]
      intro p hp
      rw [decide_eq_false (hr p hp)]
      rfl
    rw [this]
    simp [er]
  · have : (l.all fun p => !decide (need c p ≤ cntOut c l p)) = false := by
      rw [List.all_eq_false]
      exact ⟨p, hpl, by rw [decide_eq_true hp]; decide⟩
    rw [this]
    simp [er]
end
end Fm


/-! FpH: forts, fewest ones, and the first kind of law's own of these. -/
namespace Fm
open PySem PySem.Spec PyProof.Rows L2
def m_forts : E := .call "least_of" (.cons (.lc (.one 1) [1] (.sl (.call "all_lots" (.cons (.var 0) .nil)) (.int 1) .nil) (.call "keeps_out" (.cons (.var 0) (.cons (.var 1) .nil))) (.var 1)) .nil)
def m_least : E := .call "least_of" (.cons (.lc (.one 2) [2] (.call "all_lots" (.cons (.var 0) .nil)) (.call "meets" (.cons (.var 2) (.cons (.var 1) .nil))) (.var 2)) .nil)
def s_least : S := .set (.one 1) (.call "forts_of" (.cons (.var 0) .nil))
abbrev K_fk (fs : List DefS) : Prop := K_all_lots fs ∧ K_least_of fs ∧ K_keeps_out fs
abbrev K_lk (fs : List DefS) : Prop := K_all_lots fs ∧ K_least_of fs ∧ K_meets fs ∧ K_forts_of fs
theorem allLots_head (n : Nat) : ∃ r, allLots n = [] :: r := by
  cases e : allLots n with
  | nil =>
    have := mem_allLots.mpr (isLot_nil n)
    rw [e] at this
    cases this
  | cons a r =>
    have h1 := allLots_sorted n
    rw [e] at h1
    have h2 := mem_allLots.mpr (isLot_nil n)
    rw [e] at h2
    rcases List.mem_cons.mp h2 with h2 | h2
    · exact ⟨r, by rw [← h2]⟩
    · rcases (List.pairwise_cons.mp h1).1 [] h2 with h3 | ⟨h3, _⟩
      · exact absurd h3 (by simp)
      · have : a = [] := List.length_eq_zero_iff.mp (by simpa using h3)
        exact ⟨r, by rw [this]⟩
theorem forts_tail (c : Cr) : fortsOf c = leastOf ((allLots c.n).tail.filter (keepsOut c)) := by
  unfold fortsOf
  congr 1
  obtain ⟨r, e⟩ := allLots_head c.n
  have hn := allLots_nodup c.n
  rw [e] at hn ⊢
  rw [List.filter_cons]
  have h0 : isFortB c [] = false := rfl
  rw [h0]
  simp only [Bool.false_eq_true, if_false, List.tail_cons]
  refine List.filter_congr fun l hl => ?_
  have : l ≠ [] := fun z => (List.nodup_cons.mp hn).1 (z ▸ hl)
  unfold isFortB
  rw [decide_eq_true (List.length_pos_iff.mpr this), Bool.true_and]
theorem tail_len {n : Nat} (h : n ≤ 9) (p : List Nat → Bool) : ((allLots n).filter p).length ≤ 1000 := by
  have h1 := List.length_filter_le p (allLots n)
  rw [allLots_len] at h1
  have := pow_le h
  omega
theorem slL1 {α : Type} (f : α → D) (l : List α) : slD (.lst (l.map f)) (some 1) none = .ret (.lst (l.tail.map f)) := by
  show T.ret (D.lst (cutD (l.map f) (some 1) none)) = _
  rw [cut1, List.drop_one, List.map_tail]
section
variable {prim : Fns} {fs : List DefS} {n : Nat}
theorem forts_val (P : PrimH prim) (K : K_fk fs) (hn : 2 ≤ n) {c : Cr} (h : c.Ok) : ev (callF prim fs n) m_forts [some (crD c), none] = .ret (.tup ((fortsOf c).map lotD)) := by
  rw [forts_tail]
  have e1 := p_all_lots (prim := prim) (n := n) K.1 (by omega) h.n9
  have e2 : ev (callF prim fs n) (.lc (.one 1) [1] (.sl (.call "all_lots" (.cons (.var 0) .nil)) (.int 1) .nil) (.call "keeps_out" (.cons (.var 0) (.cons (.var 1) .nil))) (.var 1)) [some (crD c), none] = .ret (.lst (((allLots c.n).tail.filter (keepsOut c)).map lotD)) := by
    refine ev_lcF lotD (allLots c.n).tail _ _ ?_ fun l hl => ?_
    · have := slL1 lotD (allLots c.n)
      simp [e1, this]
    · have e3 := p_keeps_out (n := n) P K.2.2 (by omega) h (mem_allLots.mp (List.mem_of_mem_tail hl))
      simp [e3]
  have h1 : ((allLots c.n).tail.filter (keepsOut c)).length ≤ 1000 := by
    have h1 := List.length_filter_le (keepsOut c) (allLots c.n).tail
    rw [List.length_tail, allLots_len] at h1
    have := pow_le h.n9
    omega
  have e4 := p_least_of (prim := prim) (n := n) K.2.1 hn _ h1
  unfold m_forts
  simp [e2, e4]
theorem least_val (P : PrimH prim) (K : K_lk fs) (hn : 2 ≤ n) {c : Cr} (h : c.Ok) : ev (callF prim fs n) m_least [some (crD c), some (.tup ((fortsOf c).map lotD)), none] = .ret (.tup ((leastIn c).map lotD)) := by
  have e1 := p_all_lots (prim := prim) (n := n) K.1 (by omega) h.n9
  have e2 : ev (callF prim fs n) (.lc (.one 2) [2] (.call "all_lots" (.cons (.var 0) .nil)) (.call "meets" (.cons (.var 2) (.cons (.var 1) .nil))) (.var 2)) [some (crD c), some (.tup ((fortsOf c).map lotD)), none] = .ret (.lst (((allLots c.n).filter fun l => meetsB l (fortsOf c)).map lotD)) := by
    refine ev_lcF lotD (allLots c.n) _ _ (by simp [e1]) fun l hl => ?_
    have e3 := p_meets (prim := prim) (n := n) K.2.2.1 (by omega) l (fortsOf c) (fd := .tup ((fortsOf c).map lotD)) rfl rfl
    simp [e3]
  have e4 := p_least_of (prim := prim) (n := n) K.2.1 hn _ (tail_len h.n9 fun l => meetsB l (fortsOf c))
  unfold m_least
  simp [e2, e4, leastIn, meeting]
theorem lotsT_bad (f : Cr → List (List Nat)) (ds : List D) : (∃ d0, lotsT f ds = .ret d0) ∨ lotsT f ds = .bad := by
  unfold lotsT
  split
  · split
    · exact .inl ⟨_, rfl⟩
    · exact .inr rfl
  · exact .inr rfl
theorem lotsT_un {f : Cr → List (List Nat)} {ds : List D} {d0 : D} (h : lotsT f ds = .ret d0) : ∃ n ts ns, ds = [.crowd n ts ns] ∧ (⟨n, ts, ns⟩ : Cr).Ok ∧ d0 = .tup ((f ⟨n, ts, ns⟩).map lotD) := by
  unfold lotsT at h
  split at h
  · rename_i n ts ns
    split at h
    · rename_i hc
      cases h
      exact ⟨n, ts, ns, rfl, crB_ok hc, rfl⟩
    · cases h
  · cases h
theorem lots_flat (l : List (List Nat)) : D.flat (.tup (l.map lotD)) = true := by
  rw [flat_tup]
  exact all_flat lotD l
theorem kept_forts {W : Wd} {lv : Nat} {N : List Str} (P : PrimH prim) (K : K_fk fs) (hc : W.cache = cacheT) (hN : N.length = 2) (hl : 2 ≤ lv) : Kept W prim "forts_of" "forts" (callF prim fs lv) N none m_forts := by
  refine ⟨by decide +kernel, fun ds d0 h => ?_, fun ds => by rw [P.forts]; exact lotsT_bad _ ds, fun s e => by cases e⟩
  rw [P.forts] at h
  obtain ⟨n, ts, ns, rfl, ok, rfl⟩ := lotsT_un h
  have he : envOf N [.crowd n ts ns] = [some (crD ⟨n, ts, ns⟩), none] := by
    unfold envOf
    rw [hN]
    rfl
  exact ⟨n, ts, ns, _, rfl, by rw [hc]; rfl, lots_flat _, rfl, by rw [he]; exact forts_val P K hl ok⟩
theorem kept_least {W : Wd} {lv : Nat} {N : List Str} (P : PrimH prim) (K : K_lk fs) (hc : W.cache = cacheT) (hN : N.length = 3) (hl : 2 ≤ lv) : Kept W prim "least_in" "least" (callF prim fs lv) N (some s_least) m_least := by
  refine ⟨by decide +kernel, fun ds d0 h => ?_, fun ds => by rw [P.least]; exact lotsT_bad _ ds, fun s e => by cases e; decide⟩
  rw [P.least] at h
  obtain ⟨n, ts, ns, rfl, ok, rfl⟩ := lotsT_un h
  have he : envOf N [.crowd n ts ns] = [some (crD ⟨n, ts, ns⟩), none, none] := by
    unfold envOf
    rw [hN]
    rfl
  have e1 := p_forts_of (n := lv) P K.2.2.2 ok
  refine ⟨n, ts, ns, [some (crD ⟨n, ts, ns⟩), some (.tup ((fortsOf ⟨n, ts, ns⟩).map lotD)), none], rfl, by rw [hc]; rfl, lots_flat _, ?_, least_val P K hl ok⟩
  rw [he]
  have e2 : exec (callF prim fs lv) s_least [some (crD ⟨n, ts, ns⟩), none, none] = .ret (.nx [some (crD ⟨n, ts, ns⟩), some (.tup ((fortsOf ⟨n, ts, ns⟩).map lotD)), none]) := by
    unfold s_least
    simp [e1]
  show (exec _ _ _ >>= nxT) = _
  rw [e2]
  rfl
end
end Fm


/-! FpI: enough, fewest ones, the first kind of law's own lots. -/
namespace Fm
open PySem PySem.Spec PyProof.Rows L2
/- forts: 0 crowd, -/
def b_forts : S :=
 (.cons (.ret (.call "forts_of" (.cons (.var 0) .nil)))
 .nil)

/- least_lots: 0 crowd, -/
def b_least_lots : S :=
 (.cons (.ret (.call "least_in" (.cons (.var 0) .nil)))
 .nil)

/- all_fewest: 0 crowd, 1 size, 2 lot, -/
def b_all_fewest : S :=
 (.cons (.set (.one 1) (.blt .min1 (.cons (.lc (.one 2) [2] (.call "least_in" (.cons (.var 0) .nil)) .nil (.blt .len (.cons (.var 2) .nil))) .nil)))
 (.cons (.ret (.blt .tuple (.cons (.lc (.one 2) [2] (.call "least_in" (.cons (.var 0) .nil)) (.op .eq (.blt .len (.cons (.var 2) .nil)) (.var 1)) (.var 2)) .nil)))
 .nil))

/- fewest: 0 crowd, -/
def b_fewest : S :=
 (.cons (.ret (.ix (.call "all_fewest" (.cons (.var 0) .nil)) (.int 0)))
 .nil)

/- is_all: 0 crowd, 1 first, -/
def b_is_all : S :=
 (.cons (.ret (.op .eq (.blt .len (.cons (.call "taken_in" (.cons (.var 0) (.cons (.var 1) .nil))) .nil)) (.attr (.var 0) "persons")))
 .nil)

/- enough: 0 crowd, 1 first, -/
def b_enough : S :=
 (.cons (.expr (.call "check_lot" (.cons (.var 0) (.cons (.var 1) .nil))))
 (.cons (.ite (.call "is_all" (.cons (.var 0) (.cons (.var 1) .nil)))
 (.cons (.ret (.tup (.cons (.str "all") (.cons (.call "order_in" (.cons (.var 0) (.cons (.var 1) .nil))) .nil))))
 .nil)
 .nil)
 (.cons (.ret (.tup (.cons (.str "kept") (.cons (.call "others_of" (.cons (.var 0) (.cons (.call "taken_in" (.cons (.var 0) (.cons (.var 1) .nil))) .nil))) .nil))))
 .nil)))

/- _law_lots: 0 persons, 1 found, 2 person, 3 size, 4 lot, -/
def b__law_lots : S :=
 (.cons (.set (.one 1) (.lst (.cons (.tup .nil) .nil)))
 (.cons (.for_ (.one 2) (.rng1 (.var 0))
 (.cons (.set (.one 1) (.op .add (.var 1) (.lc (.one 4) [4] (.var 1) .nil (.op .add (.var 4) (.tup (.cons (.var 2) .nil))))))
 .nil))
 (.cons (.ret (.lc (.many [3, 4]) [3, 4] (.blt .sorted (.cons (.lc (.one 4) [4] (.var 1) .nil (.tup (.cons (.blt .len (.cons (.var 4) .nil)) (.cons (.var 4) .nil)))) .nil)) .nil (.var 4)))
 .nil)))

/- _law_is_enough: 0 parts, 1 first, -/
def b__law_is_enough : S :=
 (.cons (.ret (.op .eq (.blt .len (.cons (.call "_law_taken" (.cons (.var 0) (.cons (.var 1) .nil))) .nil)) (.ix (.var 0) (.int 0))))
 .nil)

/- _law_least: 0 lots, 1 found, 2 lot, 3 one, 4 person, -/
def b__law_least : S :=
 (.cons (.set (.one 1) (.lst .nil))
 (.cons (.for_ (.one 2) (.var 0)
 (.cons (.ite (.nt (.blt .any (.cons (.lc (.one 3) [3] (.var 1) .nil (.blt .all (.cons (.lc (.one 4) [4] (.var 3) .nil (.op .isin (.var 4) (.var 2))) .nil))) .nil)))
 (.cons (.app 1 (.var 2))
 .nil)
 .nil)
 .nil))
 (.cons (.ret (.blt .tuple (.cons (.blt .sorted (.cons (.var 1) .nil)) .nil)))
 .nil)))

/- _law_is_fort: 0 parts, 1 besides_v, 2 lot, 3 person, 4 one, -/
def b__law_is_fort : S :=
 (.cons (.ite (.op .eq (.blt .len (.cons (.var 2) .nil)) (.int 0))
 (.cons (.ret (.bl false))
 .nil)
 .nil)
 (.cons (.ret (.blt .all (.cons (.lc (.one 3) [3] (.var 2) .nil (.op .lt (.blt .len (.cons (.lc (.one 4) [4] (.ix (.var 1) (.var 3)) (.op .notin (.var 4) (.var 2)) (.var 4)) .nil)) (.ix (.ix (.var 0) (.int 2)) (.var 3)))) .nil)))
 .nil))

/- _law_forts: 0 parts, 1 besides_v, 2 lot, -/
def b__law_forts : S :=
 (.cons (.set (.one 1) (.call "_law_besides" (.cons (.var 0) .nil)))
 (.cons (.ret (.call "_law_least" (.cons (.lc (.one 2) [2] (.call "_law_lots" (.cons (.ix (.var 0) (.int 0)) .nil)) (.call "_law_is_fort" (.cons (.var 0) (.cons (.var 1) (.cons (.var 2) .nil)))) (.var 2)) .nil)))
 .nil))

/- _law_meeting: 0 persons, 1 some, 2 lots, 3 lot, 4 one, 5 person, -/
def b__law_meeting : S :=
 (.cons (.set (.one 2) (.call "_law_lots" (.cons (.var 0) .nil)))
 (.cons (.ret (.call "_law_least" (.cons (.lc (.one 3) [3] (.var 2) (.blt .all (.cons (.lc (.one 4) [4] (.var 1) .nil (.blt .any (.cons (.lc (.one 5) [5] (.var 4) .nil (.op .isin (.var 5) (.var 3))) .nil))) .nil)) (.var 3)) .nil)))
 .nil))

abbrev K_forts (fs : List DefS) : Prop := HasB fs "forts" 1 1 b_forts ∧ K_forts_of fs
abbrev K_least_lots (fs : List DefS) : Prop := HasB fs "least_lots" 1 1 b_least_lots ∧ K_least_in fs
abbrev K_all_fewest (fs : List DefS) : Prop := HasB fs "all_fewest" 1 3 b_all_fewest ∧ K_least_in fs
abbrev K_fewest (fs : List DefS) : Prop := HasB fs "fewest" 1 1 b_fewest ∧ K_all_fewest fs
abbrev K_is_all (fs : List DefS) : Prop := HasB fs "is_all" 2 2 b_is_all ∧ K_taken_in fs
abbrev K_enough (fs : List DefS) : Prop := HasB fs "enough" 2 2 b_enough ∧ K_check_lot fs ∧ K_is_all fs ∧ K_others_of fs
abbrev K__law_lots (fs : List DefS) : Prop := HasB fs "_law_lots" 1 5 b__law_lots
abbrev K__law_is_enough (fs : List DefS) : Prop := HasB fs "_law_is_enough" 2 2 b__law_is_enough ∧ K__law_taken fs
abbrev K__law_least (fs : List DefS) : Prop := HasB fs "_law_least" 1 5 b__law_least
abbrev K__law_is_fort (fs : List DefS) : Prop := HasB fs "_law_is_fort" 3 5 b__law_is_fort
abbrev K__law_forts (fs : List DefS) : Prop := HasB fs "_law_forts" 1 3 b__law_forts ∧ K__law_besides fs ∧ K__law_lots fs ∧ K__law_is_fort fs ∧ K__law_least fs
abbrev K__law_meeting (fs : List DefS) : Prop := HasB fs "_law_meeting" 2 6 b__law_meeting ∧ K__law_lots fs ∧ K__law_least fs
section
variable {prim : Fns} {fs : List DefS} {n : Nat}
theorem p_forts (P : PrimH prim) (K : K_forts fs) (hn : 1 ≤ n) {c : Cr} (h : c.Ok) : callF prim fs n "forts" [crD c] = .ret (.tup ((fortsOf c).map lotD)) := by
  rw [K.1.call (by omega) rfl [some (crD c)] rfl]
  unfold b_forts
  have e := p_forts_of (n := n - 1) P K.2 h
  simp [e]
theorem p_least_lots (P : PrimH prim) (K : K_least_lots fs) (hn : 1 ≤ n) {c : Cr} (h : c.Ok) : callF prim fs n "least_lots" [crD c] = .ret (.tup ((leastIn c).map lotD)) := by
  rw [K.1.call (by omega) rfl [some (crD c)] rfl]
  unfold b_least_lots
  have e := p_least_in (n := n - 1) P K.2 h
  simp [e]
theorem p_is_all (P : PrimH prim) (K : K_is_all fs) (hn : 5 ≤ n) {c : Cr} (h : c.Ok) {f : List Nat} (hf : IsLot c.n f) : callF prim fs n "is_all" [crD c, .tup (f.map natD)] = .ret (.bl (decide ((tk c f).length = c.n))) := by
  rw [K.1.call (by omega) rfl [some (crD c), some (.tup (f.map natD))] rfl]
  unfold b_is_all
  have e1 := p_taken_in (n := n - 1) P K.2 (by omega) h hf.asc.nodup hf.lt
  simp [e1]
theorem p_enough (P : PrimH prim) (K : K_enough fs) (hn : 6 ≤ n) {c : Cr} (h : c.Ok) {f : List Nat} (hf : IsLot c.n f) : callF prim fs n "enough" [crD c, .tup (f.map natD)] = .ret (if (tk c f).length = c.n then .tup [.str (Str.ofString "all"), .tup ((ord c f).map natD)] else .tup [.str (Str.ofString "kept"), .tup ((others c.n (tk c f)).map natD)]) := by
  rw [K.1.call (by omega) rfl [some (crD c), some (.tup (f.map natD))] rfl]
  unfold b_enough
  have e0 := p_check_lot (prim := prim) (n := n - 1) K.2.1 (by omega) hf
  have e1 := p_is_all (n := n - 1) P K.2.2.1 (by omega) h hf
  have e2 := p_order_in (n := n - 1) P K.2.2.1.2.2 (by omega) h hf.asc.nodup hf.lt
  have e3 := p_taken_in (n := n - 1) P K.2.2.1.2 (by omega) h hf.asc.nodup hf.lt
  have e4 := p_others_of (prim := prim) (n := n - 1) K.2.2.2 (by omega) (c := c) (by have := h.n9; omega) (tk c f)
  by_cases hc : (tk c f).length = c.n
  · simp [e0, e1, e2, hc, mkTup]
  · simp [e0, e1, e3, e4, hc, mkTup]
theorem p__law_lots (K : K__law_lots fs) (hn : 1 ≤ n) {m : Nat} (h : m ≤ 9) : callF prim fs n "_law_lots" [.int m] = .ret (.cell ((allLots m).map lotD)) := by
  rw [K.call (by omega) rfl [some (.int m), none, none, none, none] rfl]
  exact all_lots_val (en := .var 0) h fun env => by simp
theorem p__law_is_enough (K : K__law_is_enough fs) (hn : 3 ≤ n) {c : Cr} (h : c.Ok) {f : List Nat} (hf : IsLot c.n f) : callF prim fs n "_law_is_enough" [partsD c, .tup (f.map natD)] = .ret (.bl (decide ((tk c f).length = c.n))) := by
  rw [K.1.call (by omega) rfl [some (partsD c), some (.tup (f.map natD))] rfl]
  unfold b__law_is_enough
  have h9 := h.n9
  have e1 := p__law_taken (prim := prim) (n := n - 1) K.2 (by omega) (by omega) h.nl hf.asc.nodup hf.lt
  simp [e1]
theorem p__law_least (K : K__law_least fs) (hn : 1 ≤ n) (lots : List (List Nat)) (hl : lots.length ≤ 1000) : callF prim fs n "_law_least" [.lst (lots.map lotD)] = .ret (.tup ((leastOf lots).map lotD)) := by
  rw [K.call (by omega) rfl [some (.lst (lots.map lotD)), none, none, none, none] rfl]
  unfold b__law_least leastOf
  have e3 : ∀ (a : List Nat) (f : List (List Nat)) (x y : Option D), ev (callF prim fs (n - 1)) (.lc (.one 3) [3] (.var 1) .nil (.blt .all (.cons (.lc (.one 4) [4] (.var 3) .nil (.op .isin (.var 4) (.var 2))) .nil))) [some (.lst (lots.map lotD)), some (.cell (f.map lotD)), some (lotD a), x, y] = .ret (.lst (f.map fun o => .bl (within o a))) := fun a f x y => by
    refine ev_lcM lotD f _ (by simp) fun o ho => ?_
    have e2 : ev (callF prim fs (n - 1)) (.lc (.one 4) [4] (.var 3) .nil (.op .isin (.var 4) (.var 2))) [some (.lst (lots.map lotD)), some (.cell (f.map lotD)), some (lotD a), some (lotD o), y] = .ret (.lst (o.map fun x => .bl (decide (x ∈ a)))) :=
      ev_lcM natD o _ (by simp) fun x hx => by simp
    simp at e2
    simp [e2, within]
  obtain ⟨e, e1, x, y, z, q, hq, rfl⟩ := exec_for_nx (F := callF prim fs (n - 1)) (tg := .one 2) (it := .var 0) (b := .cons (.ite (.nt (.blt .any (.cons (.lc (.one 3) [3] (.var 1) .nil (.blt .all (.cons (.lc (.one 4) [4] (.var 3) .nil (.op .isin (.var 4) (.var 2))) .nil))) .nil))) (.cons (.app 1 (.var 2)) .nil) .nil) .nil)
    (env := [some (.lst (lots.map lotD)), some (.cell []), none, none, none]) lotD lots
    (fun rest env => ∃ (x y z : Option D) (q : List (List Nat)), lots = q ++ rest ∧ env = [some (.lst (lots.map lotD)), some (.cell ((leastGo q).map lotD)), x, y, z])
    (by simp) rfl
    (fun a rest env _ hI => by
      obtain ⟨x, y, z, q, hq, rfl⟩ := hI
      have hlen : q.length ≤ lots.length := by rw [hq]; simp
      have h1 := leastGo_le q
      have l1 : (leastGo q).length < maxL := by rw [maxL_eq]; omega
      have e4 := e3 a (leastGo q) y z
      simp at e4
      refine ⟨_, by simp; rfl, [some (.lst (lots.map lotD)), some (.cell ((leastGo (q ++ [a])).map lotD)), some (lotD a), y, z], ?_, some (lotD a), y, z, q ++ [a], by rw [hq]; simp, rfl⟩
      rw [leastGo_snoc]
      cases hw : hasWithin a (leastGo q) with
      | true =>
        unfold hasWithin at hw
        simp only [ev_nt', ev_blt, evs_cons', evs_nil', exec_cons', exec_ite, e4, ret_bind, lotD_eq, any_map', hw, asB_bl']
        simp
      | false =>
        unfold hasWithin at hw
        simp only [ev_nt', ev_blt, evs_cons', evs_nil', exec_cons', exec_ite, e4, ret_bind, lotD_eq, any_map', hw, asB_bl']
        simp [l1])
    ⟨none, none, none, [], rfl, by simp [leastGo]⟩
  rw [List.append_nil] at hq
  subst hq
  have h1 := leastGo_le lots
  have e6 := sorted_lots (l := leastGo lots) (by omega) (d := .cell ((leastGo lots).map lotD)) rfl
  simp [mkLst, e1, e6]
theorem p__law_is_fort (K : K__law_is_fort fs) (hn : 1 ≤ n) {c : Cr} (h : c.Ok) {l : List Nat} (hl : IsLot c.n l) : callF prim fs n "_law_is_fort" [partsD c, .lst ((List.range c.n).map (rowL c)), .tup (l.map natD)] = .ret (.bl (isFortB c l)) := by
  rw [K.call (by omega) rfl [some (partsD c), some (.lst ((List.range c.n).map (rowL c))), some (.tup (l.map natD)), none, none] rfl]
  unfold b__law_is_fort isFortB
  have e1 : ev (callF prim fs (n - 1)) (.lc (.one 3) [3] (.var 2) .nil (.op .lt (.blt .len (.cons (.lc (.one 4) [4] (.ix (.var 1) (.var 3)) (.op .notin (.var 4) (.var 2)) (.var 4)) .nil)) (.ix (.ix (.var 0) (.int 2)) (.var 3)))) [some (partsD c), some (.lst ((List.range c.n).map (rowL c))), some (.tup (l.map natD)), none, none] = .ret (.lst (l.map fun p => .bl (!decide (need c p ≤ cntOut c l p)))) := by
    refine ev_lcM natD l _ (by simp) fun p hpl => ?_
    have hp := hl.lt p hpl
    have i1 : ixD (.lst ((List.range c.n).map (rowL c))) (.int (p : Nat)) = .ret (rowL c p) := by
      rw [ix_get (xs := (List.range c.n).map (rowL c)) rfl (fun _ e => by cases e) (by simpa using hp)]
      simp
    have e2 : ev (callF prim fs (n - 1)) (.lc (.one 4) [4] (.ix (.var 1) (.var 3)) (.op .notin (.var 4) (.var 2)) (.var 4)) [some (partsD c), some (.lst ((List.range c.n).map (rowL c))), some (.tup (l.map natD)), some (.int p), none] = .ret (.lst (((nbs c p).filter fun b => !decide (b ∈ l)).map natD)) :=
      ev_lcF natD (nbs c p) _ _ (by simp [i1, rowL]) fun b hb => by simp
    have e4 := need_eq h.nl hp
    have e5 : decide (((nbs c p).filter fun b => !decide (b ∈ l)).length < need c p) = !decide (need c p ≤ cntOut c l p) := by
      unfold cntOut
      by_cases hx : need c p ≤ ((nbs c p).filter fun b => !decide (b ∈ l)).length
      · rw [decide_eq_true hx, decide_eq_false (by omega)]
        rfl
      · rw [decide_eq_false hx, decide_eq_true (by omega)]
        rfl
    simp [e2, e4, ← e5]
  by_cases h0 : l = []
  · subst h0
    simp [eqD_ints]
  · have h1 : 0 < l.length := List.length_pos_iff.mpr h0
    have h2 : ¬ l.length = 0 := by omega
    simp [e1, h0, keepsOut, eqD_ints]
    exact fun _ => h1
theorem p__law_forts (K : K__law_forts fs) (hn : 2 ≤ n) {c : Cr} (h : c.Ok) : callF prim fs n "_law_forts" [partsD c] = .ret (.tup ((fortsOf c).map lotD)) := by
  rw [K.1.call (by omega) rfl [some (partsD c), none, none] rfl]
  unfold b__law_forts fortsOf
  have h9 := h.n9
  have e1 := p__law_besides (prim := prim) (n := n - 1) K.2.1 (by omega) (c := c) (by omega)
  have e2 := p__law_lots (prim := prim) (n := n - 1) K.2.2.1 (by omega) (m := c.n) h9
  have e3 : ev (callF prim fs (n - 1)) (.lc (.one 2) [2] (.call "_law_lots" (.cons (.ix (.var 0) (.int 0)) .nil)) (.call "_law_is_fort" (.cons (.var 0) (.cons (.var 1) (.cons (.var 2) .nil)))) (.var 2)) [some (partsD c), some (.lst ((List.range c.n).map (rowL c))), none] = .ret (.lst (((allLots c.n).filter (isFortB c)).map lotD)) := by
    refine ev_lcF lotD (allLots c.n) _ _ (by simp [e2]) fun l hl => ?_
    have e4 := p__law_is_fort (prim := prim) (n := n - 1) K.2.2.2.1 (by omega) h (mem_allLots.mp hl)
    simp [e4]
  have e5 := p__law_least (prim := prim) (n := n - 1) K.2.2.2.2 (by omega) _ (tail_len h9 (isFortB c))
  simp [e1, e3, e5]
theorem p__law_meeting (K : K__law_meeting fs) (hn : 2 ≤ n) {m : Nat} (h9 : m ≤ 9) (some_ : List (List Nat)) : callF prim fs n "_law_meeting" [.int m, .tup (some_.map lotD)] = .ret (.tup ((meeting m some_).map lotD)) := by
  rw [K.1.call (by omega) rfl [some (.int m), some (.tup (some_.map lotD)), none, none, none, none] rfl]
  unfold b__law_meeting meeting
  have e2 := p__law_lots (prim := prim) (n := n - 1) K.2.1 (by omega) (m := m) h9
  have e3 : ev (callF prim fs (n - 1)) (.lc (.one 3) [3] (.var 2) (.blt .all (.cons (.lc (.one 4) [4] (.var 1) .nil (.blt .any (.cons (.lc (.one 5) [5] (.var 4) .nil (.op .isin (.var 5) (.var 3))) .nil))) .nil)) (.var 3)) [some (.int m), some (.tup (some_.map lotD)), some (.lst ((allLots m).map lotD)), none, none, none] = .ret (.lst (((allLots m).filter fun l => meetsB l some_).map lotD)) := by
    refine ev_lcF lotD (allLots m) _ _ (by simp) fun l hl => ?_
    have e4 : ev (callF prim fs (n - 1)) (.lc (.one 4) [4] (.var 1) .nil (.blt .any (.cons (.lc (.one 5) [5] (.var 4) .nil (.op .isin (.var 5) (.var 3))) .nil))) [some (.int m), some (.tup (some_.map lotD)), some (.lst ((allLots m).map lotD)), some (lotD l), none, none] = .ret (.lst (some_.map fun o => .bl (o.any fun x => decide (x ∈ l)))) := by
      refine ev_lcM lotD some_ _ (by simp) fun o ho => ?_
      have e5 : ev (callF prim fs (n - 1)) (.lc (.one 5) [5] (.var 4) .nil (.op .isin (.var 5) (.var 3))) [some (.int m), some (.tup (some_.map lotD)), some (.lst ((allLots m).map lotD)), some (lotD l), some (lotD o), none] = .ret (.lst (o.map fun x => .bl (decide (x ∈ l)))) :=
        ev_lcM natD o _ (by simp) fun x hx => by simp
      simp at e5
      simp [e5]
    simp at e4
    simp [e4, meetsB]
  have e5 := p__law_least (prim := prim) (n := n - 1) K.2.2 (by omega) _ (tail_len h9 fun l => meetsB l some_)
  simp [e2, e3, e5]
end
end Fm


/-! FpJ: fewest ones. -/
namespace Fm
open PySem PySem.Spec PyProof.Rows L2
theorem min1_nat (l : List Nat) (h : l ≠ []) : bltin .min1 [.lst (l.map natD)] = .ret (.int (minN l : Nat)) := by
  have e : ∀ l : List Nat, ints? (l.map natD) = some (l.map fun x : Nat => (x : Int)) := fun l => by
    induction l with
    | nil => rfl
    | cons a l ih =>
      show (ints? (l.map natD)).map ((a : Int) :: ·) = _
      rw [ih]
      rfl
  cases l with
  | nil => exact absurd rfl h
  | cons a l =>
    show (match ints? ((a :: l).map natD) with | some (n :: ns) => T.ret (D.int (ns.foldl min n)) | _ => T.bad) = _
    rw [e]
    show T.ret (D.int ((l.map fun x : Nat => (x : Int)).foldl min (a : Int))) = T.ret (D.int (l.foldl min a : Nat))
    congr 2
    induction l generalizing a with
    | nil => rfl
    | cons b l ih =>
      simp only [List.map_cons, List.foldl_cons]
      rw [← ih (min a b) (by simp)]
      congr 1
      omega
theorem forts_ne {c : Cr} : ∀ h ∈ fortsOf c, IsLot c.n h ∧ h ≠ [] := fun h hh => by
  obtain ⟨h1, h2⟩ := fort_lot hh
  refine ⟨h1, fun e => ?_⟩
  subst e
  cases h2
theorem least_ne (c : Cr) : leastIn c ≠ [] := fun e => by
  obtain ⟨g, hg⟩ := List.exists_mem_of_ne_nil _ (good_ne (n := c.n) (forts_ne (c := c)))
  obtain ⟨t, ht, _⟩ := meeting_within (mem_good.mp hg).1 (mem_good.mp hg).2
  have ht' : t ∈ leastIn c := ht
  rw [e] at ht'
  cases ht'
def fewC (c : Cr) : List Nat := (allFew (leastIn c)).headD []
theorem fewC_ne (c : Cr) : ∃ r, allFew (leastIn c) = fewC c :: r := by
  cases e : allFew (leastIn c) with
  | nil =>
    have hne : (leastIn c).map List.length ≠ [] := fun z => least_ne c (List.map_eq_nil_iff.mp z)
    obtain ⟨x, hx, e2⟩ := List.mem_map.mp (minN_mem hne)
    have : x ∈ allFew (leastIn c) := List.mem_filter.mpr ⟨hx, decide_eq_true e2⟩
    rw [e] at this
    cases this
  | cons a r => exact ⟨r, by unfold fewC; rw [e]; rfl⟩
section
variable {prim : Fns} {fs : List DefS} {n : Nat}
theorem p_all_fewest (P : PrimH prim) (K : K_all_fewest fs) (hn : 1 ≤ n) {c : Cr} (h : c.Ok) : callF prim fs n "all_fewest" [crD c] = .ret (.tup ((allFew (leastIn c)).map lotD)) := by
  rw [K.1.call (by omega) rfl [some (crD c), none, none] rfl]
  unfold b_all_fewest
  have e1 := p_least_in (n := n - 1) P K.2 h
  have hne : (leastIn c).map List.length ≠ [] := fun z => least_ne c (List.map_eq_nil_iff.mp z)
  have e2 : ev (callF prim fs (n - 1)) (.lc (.one 2) [2] (.call "least_in" (.cons (.var 0) .nil)) .nil (.blt .len (.cons (.var 2) .nil))) [some (crD c), none, none] = .ret (.lst (((leastIn c).map List.length).map natD)) := by
    rw [List.map_map]
    exact ev_lcM lotD (leastIn c) _ (by simp [e1]) fun l hl => by simp
  have e3 := min1_nat _ hne
  have e4 : ev (callF prim fs (n - 1)) (.lc (.one 2) [2] (.call "least_in" (.cons (.var 0) .nil)) (.op .eq (.blt .len (.cons (.var 2) .nil)) (.var 1)) (.var 2)) [some (crD c), some (.int (minN ((leastIn c).map List.length) : Nat)), none] = .ret (.lst ((allFew (leastIn c)).map lotD)) := by
    refine ev_lcF lotD (leastIn c) _ _ (by simp [e1]) fun l hl => ?_
    simp
  simp only [exec_cons', exec_set', ev_blt, evs_cons', evs_nil', e2, ret_bind, e3]
  simp [e4]
theorem p_fewest (P : PrimH prim) (K : K_fewest fs) (hn : 2 ≤ n) {c : Cr} (h : c.Ok) : callF prim fs n "fewest" [crD c] = .ret (.tup ((fewC c).map natD)) := by
  rw [K.1.call (by omega) rfl [some (crD c)] rfl]
  unfold b_fewest
  have e1 := p_all_fewest (n := n - 1) P K.2 (by omega) h
  obtain ⟨r, e⟩ := fewC_ne c
  rw [e] at e1
  simp at e1
  simp [e1]
end
end Fm


/-! FpK: the second kind of law's own helpers; forts judged and told. -/
namespace Fm
open PySem PySem.Spec PyProof.Rows L2
/- _law_any: 0 hand, 1 things, -/
def b__law_any : S :=
 (.cons (.ret (.ix (.var 1) (.call "_law_draw" (.cons (.var 0) (.cons (.blt .len (.cons (.var 1) .nil)) .nil)))))
 .nil)

/- _law_crowd: 0 hand, 1 most, 2 a, 3 menu, 4 persons, 5 ties, 6 kind, 7 thin, 8 b, 9 is_near, 10 person, -/
def b__law_crowdC : S :=
 (.cons (.par [4, 5] (.cons (.op .add (.int 1) (.call "_law_draw" (.cons (.var 0) (.cons (.var 1) .nil)))) (.cons (.lst .nil) .nil)))
 (.cons (.par [6, 7] (.cons (.call "_law_draw" (.cons (.var 0) (.cons (.int 5) .nil))) (.cons (.call "_law_any" (.cons (.var 0) (.cons (.lst (.cons (.int 2) (.cons (.int 3) (.cons (.int 4) .nil)))) .nil))) .nil)))
 (.cons (.for_ (.one 2) (.rng1 (.var 4))
 (.cons (.for_ (.one 8) (.rng2 (.op .add (.var 2) (.int 1)) (.var 4))
 (.cons (.set (.one 9) (.or (.op .eq (.var 8) (.op .add (.var 2) (.int 1))) (.and (.op .eq (.tup (.cons (.var 2) (.cons (.var 8) .nil))) (.tup (.cons (.int 0) (.cons (.op .sub (.var 4) (.int 1)) .nil)))) (.op .eq (.var 6) (.int 1)))))
 (.cons (.ite (.or (.and (.op .lt (.var 6) (.int 2)) (.var 9)) (.or (.op .eq (.var 6) (.int 2)) (.and (.op .eq (.call "_law_draw" (.cons (.var 0) (.cons (.var 7) .nil))) (.int 0)) (.op .gt (.var 6) (.int 2)))))
 (.cons (.app 5 (.tup (.cons (.var 2) (.cons (.var 8) .nil))))
 .nil)
 .nil)
 .nil)))
 .nil))
 (.cons (.set (.one 3) (.call "_law_any" (.cons (.var 0) (.cons (.lst (.cons (.lst (.cons (.int 1) .nil)) (.cons (.lst (.cons (.int 2) .nil)) (.cons (.lst (.cons (.int 1) (.cons (.int 2) .nil))) (.cons (.lst (.cons (.int 1) (.cons (.int 1) (.cons (.int 2) (.cons (.int 3) .nil))))) (.cons (.lst (.cons (.int 0) (.cons (.int 1) (.cons (.int 2) (.cons (.int 2) (.cons (.int 3) (.cons (.int 9) .nil))))))) .nil)))))) .nil))))
 (.cons (.ret (.tup (.cons (.var 4) (.cons (.blt .tuple (.cons (.var 5) .nil)) (.cons (.blt .tuple (.cons (.lc (.one 10) [10] (.rng1 (.var 4)) .nil (.call "_law_any" (.cons (.var 0) (.cons (.var 3) .nil)))) .nil)) .nil)))))
 .nil)))))

/- _law_near: 0 drawn, 1 a, 2 b, -/
def b__law_near : S :=
 (.cons (.ret (.lc (.one 2) [2] (.rng1 (.ix (.var 0) (.int 0))) (.and (.op .isin (.tup (.cons (.blt .min2 (.cons (.var 1) (.cons (.var 2) .nil))) (.cons (.blt .max2 (.cons (.var 1) (.cons (.var 2) .nil))) .nil))) (.ix (.var 0) (.int 1))) (.op .ne (.var 1) (.var 2))) (.var 2)))
 .nil)

/- _law_lots: 0 persons, 1 found, 2 person, 3 lot, -/
def b__law_lotsC : S :=
 (.cons (.set (.one 1) (.lst (.cons (.tup .nil) .nil)))
 (.cons (.for_ (.one 2) (.rng1 (.var 0))
 (.cons (.set (.one 1) (.op .add (.var 1) (.lc (.one 3) [3] (.var 1) .nil (.op .add (.var 3) (.tup (.cons (.var 2) .nil))))))
 .nil))
 (.cons (.ret (.blt .sorted (.cons (.var 1) .nil)))
 .nil)))

/- _law_holds_out: 0 drawn, 1 lot, 2 a, 3 b, -/
def b__law_holds_out : S :=
 (.cons (.for_ (.one 2) (.var 1)
 (.cons (.ite (.op .ge (.blt .len (.cons (.lc (.one 3) [3] (.call "_law_near" (.cons (.var 0) (.cons (.var 2) .nil))) (.op .notin (.var 3) (.var 1)) (.var 3)) .nil)) (.ix (.ix (.var 0) (.int 2)) (.var 2)))
 (.cons (.ret (.bl false))
 .nil)
 .nil)
 .nil))
 (.cons (.ret (.op .gt (.blt .len (.cons (.var 1) .nil)) (.int 0)))
 .nil))

/- _law_join: 0 lots, 1 found, 2 lot, 3 person, -/
def b__law_join : S :=
 (.cons (.set (.one 1) (.lst .nil))
 (.cons (.for_ (.one 2) (.var 0)
 (.cons (.set (.one 1) (.op .add (.var 1) (.lc (.one 3) [3] (.var 2) (.op .notin (.var 3) (.var 1)) (.var 3))))
 .nil))
 (.cons (.ret (.ite (.op .gt (.blt .len (.cons (.var 0) .nil)) (.int 0)) (.blt .tuple (.cons (.blt .sorted (.cons (.var 1) .nil)) .nil)) .non))
 .nil)))

/- is_order_in: 0 crowd, 1 first, 2 thing, 3 has, 4 person, -/
def b_is_order_in : S :=
 (.cons (.ite (.nt (.isi (.var 2) .tuple))
 (.cons (.ret (.bl false))
 .nil)
 .nil)
 (.cons (.set (.one 3) (.blt .list (.cons (.var 1) .nil)))
 (.cons (.for_ (.one 4) (.var 2)
 (.cons (.ite (.or (.nt (.call "is_within" (.cons (.var 4) (.cons (.int 0) (.cons (.op .sub (.attr (.var 0) "persons") (.int 1)) .nil))))) (.or (.op .isin (.var 4) (.var 3)) (.nt (.call "can_take" (.cons (.var 0) (.cons (.var 3) (.cons (.var 4) .nil)))))))
 (.cons (.ret (.bl false))
 .nil)
 .nil)
 (.cons (.app 3 (.var 4))
 .nil)))
 (.cons (.ret (.bl true))
 .nil))))

/- is_fort: 0 crowd, 1 thing, -/
def b_is_fort : S :=
 (.cons (.ret (.and (.call "is_lot_of" (.cons (.var 0) (.cons (.var 1) .nil))) (.and (.op .gt (.blt .len (.cons (.var 1) .nil)) (.int 0)) (.call "keeps_out" (.cons (.var 0) (.cons (.var 1) .nil))))))
 .nil)

/- is_enough: 0 crowd, 1 first, 2 thing, 3 person, -/
def b_is_enough : S :=
 (.cons (.expr (.call "check_lot" (.cons (.var 0) (.cons (.var 1) .nil))))
 (.cons (.ite (.or (.nt (.call "is_tuple" (.cons (.var 2) (.cons (.int 2) (.cons (.int 2) .nil))))) (.nt (.isi (.ix (.var 2) (.int 0)) .str)))
 (.cons (.ret (.bl false))
 .nil)
 .nil)
 (.cons (.ite (.op .eq (.ix (.var 2) (.int 0)) (.str "all"))
 (.cons (.ret (.and (.call "is_order_in" (.cons (.var 0) (.cons (.var 1) (.cons (.ix (.var 2) (.int 1)) .nil)))) (.op .eq (.blt .len (.cons (.ix (.var 2) (.int 1)) .nil)) (.op .sub (.attr (.var 0) "persons") (.blt .len (.cons (.var 1) .nil))))))
 .nil)
 .nil)
 (.cons (.ite (.or (.op .ne (.ix (.var 2) (.int 0)) (.str "kept")) (.nt (.call "is_fort" (.cons (.var 0) (.cons (.ix (.var 2) (.int 1)) .nil)))))
 (.cons (.ret (.bl false))
 .nil)
 .nil)
 (.cons (.ret (.nt (.blt .any (.cons (.lc (.one 3) [3] (.var 1) .nil (.op .isin (.var 3) (.ix (.var 2) (.int 1)))) .nil))))
 .nil)))))

/- greatest_fort: 0 crowd, 1 lot, -/
def b_greatest_fort : S :=
 (.cons (.ret (.call "others_of" (.cons (.var 0) (.cons (.call "taken_in" (.cons (.var 0) (.cons (.call "others_of" (.cons (.var 0) (.cons (.var 1) .nil))) .nil))) .nil))))
 .nil)

/- fort_in: 0 crowd, 1 lot, 2 found, -/
def b_fort_in : S :=
 (.cons (.expr (.call "check_lot" (.cons (.var 0) (.cons (.var 1) .nil))))
 (.cons (.set (.one 2) (.call "greatest_fort" (.cons (.var 0) (.cons (.var 1) .nil))))
 (.cons (.ret (.ite (.op .gt (.blt .len (.cons (.var 2) .nil)) (.int 0)) (.var 2) .non))
 .nil)))

abbrev K__law_any (fs : List DefS) : Prop := HasB fs "_law_any" 2 2 b__law_any ∧ K_draw fs
abbrev K__law_crowdC (fs : List DefS) : Prop := HasB fs "_law_crowd" 2 11 b__law_crowdC ∧ K_draw fs ∧ K__law_any fs
abbrev K__law_near (fs : List DefS) : Prop := HasB fs "_law_near" 2 3 b__law_near
abbrev K__law_lotsC (fs : List DefS) : Prop := HasB fs "_law_lots" 1 4 b__law_lotsC
abbrev K__law_holds_out (fs : List DefS) : Prop := HasB fs "_law_holds_out" 2 4 b__law_holds_out ∧ K__law_near fs
abbrev K__law_join (fs : List DefS) : Prop := HasB fs "_law_join" 1 4 b__law_join
abbrev K_is_order_in (fs : List DefS) : Prop := HasB fs "is_order_in" 3 5 b_is_order_in ∧ K_is_within fs ∧ K_can_take fs
abbrev K_is_fort (fs : List DefS) : Prop := HasB fs "is_fort" 2 2 b_is_fort ∧ K_is_lot_of fs ∧ K_keeps_out fs
abbrev K_is_enough (fs : List DefS) : Prop := HasB fs "is_enough" 3 4 b_is_enough ∧ K_check_lot fs ∧ K_is_tuple fs ∧ K_is_order_in fs ∧ K_is_fort fs
abbrev K_greatest_fort (fs : List DefS) : Prop := HasB fs "greatest_fort" 2 2 b_greatest_fort ∧ K_others_of fs ∧ K_taken_in fs
abbrev K_fort_in (fs : List DefS) : Prop := HasB fs "fort_in" 2 3 b_fort_in ∧ K_check_lot fs ∧ K_greatest_fort fs
section
variable {prim : Fns} {fs : List DefS} {n : Nat}
theorem p__law_any (P : PrimH prim) (K : K__law_any fs) (hn : 1 ≤ n) {xs : List D} {d : D} (hd : d = .lst xs ∨ d = .tup xs) (h : 0 < xs.length ∧ xs.length ≤ 1000) {q : D → Prop} (hq : ∀ x ∈ xs, q x) : Wp (callF prim fs n "_law_any" [.hand, d]) q := by
  rw [K.1.call (by omega) rfl [some .hand, some d] rfl]
  unfold b__law_any
  have e1 := p_draw (n := n - 1) P K.2 (m := xs.length) (by omega)
  have e0 : bltin .len [d] = .ret (.int xs.length) ∧ d.unc = d ∧ d.isCell = false := by
    rcases hd with rfl | rfl <;> exact ⟨rfl, rfl, rfl⟩
  simp [e1, e0.1]
  intro i hi
  have e2 : ixD d (.int (i : Nat)) = .ret xs[i] := by
    rcases hd with rfl | rfl
    · exact ix_get rfl (fun _ e => by cases e) hi
    · exact ix_get rfl (fun _ e => by cases e) hi
  simp [e2]
  exact hq _ (List.getElem_mem hi)
theorem rng2_nat {a m : Nat} (h : a ≤ 1000) (h2 : m ≤ 1000) : rng2D (.int (a : Nat)) (.int (m : Nat)) = .ret (.lst ((List.range' a (m - a)).map natD)) := by
  show (rngD a m >>= fun r => T.ret (D.lst r)) = _
  unfold rngD
  have e : ((m : Int) - (a : Int)).toNat = m - a := by omega
  rw [e, small_nat h, small_nat h2, decide_eq_true (show m - a ≤ maxL by rw [maxL_eq]; omega), if_pos (show (true && true && true) = true from rfl), ret_bind, List.range'_eq_map_range, List.map_map]
  congr 2
theorem eqD_pairI (a b c d : Int) : eqD (.tup [.int a, .int b]) (.tup [.int c, .int d]) = .ret (decide (a = c) && decide (b = d)) := by
  rw [eqD_of rfl rfl]
  congr 1
  show ((a == c) && ((b == d) && true)) = _
  rw [Bool.and_true]
  rfl
theorem p__law_near (K : K__law_near fs) (hn : 1 ≤ n) {c : Cr} (h : c.Ok) (a : Nat) : callF prim fs n "_law_near" [partsD c, .int a] = .ret (.cell ((nbs c a).map natD)) := by
  rw [K.call (by omega) rfl [some (partsD c), some (.int a), none] rfl]
  unfold b__law_near
  have h9 := h.n9
  have e1 : ev (callF prim fs (n - 1)) (.lc (.one 2) [2] (.rng1 (.ix (.var 0) (.int 0))) (.and (.op .isin (.tup (.cons (.blt .min2 (.cons (.var 1) (.cons (.var 2) .nil))) (.cons (.blt .max2 (.cons (.var 1) (.cons (.var 2) .nil))) .nil))) (.ix (.var 0) (.int 1))) (.op .ne (.var 1) (.var 2))) (.var 2)) [some (partsD c), some (.int a), none] = .ret (.lst ((nbs c a).map natD)) := by
    refine ev_lcF natD (List.range c.n) (adj c.ts a) _ (by simp [rng1_nat (show c.n ≤ 1000 by omega)]) fun b hb => ?_
    by_cases hab : a = b
    · subst hab
      have := adj_self h a
      simp [mkTup, this]
    · simp [mkTup, adj, hab]
  simp [e1]
def lexLots (n : Nat) : List (List Nat) := sortG leL (subs n)
theorem mem_lexLots {n : Nat} {l : List Nat} : l ∈ lexLots n ↔ IsLot n l := mem_sortG.trans mem_subs
theorem lexLots_len (n : Nat) : (lexLots n).length = 2 ^ n := len_sortG.trans (subs_len n)
theorem p__law_lotsC (K : K__law_lotsC fs) (hn : 1 ≤ n) {m : Nat} (hm : m ≤ 9) : callF prim fs n "_law_lots" [.int m] = .ret (.cell ((lexLots m).map lotD)) := by
  rw [K.call (by omega) rfl [some (.int m), none, none, none] rfl]
  unfold b__law_lotsC
  obtain ⟨e, e1, x, q, hq, rfl⟩ := exec_for_nx (F := callF prim fs (n - 1)) (tg := .one 2) (it := .rng1 (.var 0)) (b := .cons (.set (.one 1) (.op .add (.var 1) (.lc (.one 3) [3] (.var 1) .nil (.op .add (.var 3) (.tup (.cons (.var 2) .nil)))))) .nil)
    (env := [some (.int m), some (.cell [.tup []]), none, none]) natD (List.range m)
    (fun rest env => ∃ (x : Option D) (q : List Nat), List.range m = q ++ rest ∧ env = [some (.int m), some (.cell ((subs q.length).map lotD)), x, none])
    (by simp [rng1_nat (show m ≤ 1000 by omega)]) rfl
    (fun a rest env _ hI => by
      obtain ⟨x, q, hq, rfl⟩ := hI
      obtain ⟨hq2, ham⟩ := range_split hq
      have hql : q.length = a := by rw [hq2]; simp
      have hp := pow_le (show a ≤ 9 by omega)
      have e3 : ev (callF prim fs (n - 1)) (.lc (.one 3) [3] (.var 1) .nil (.op .add (.var 3) (.tup (.cons (.var 2) .nil)))) [some (.int m), some (.cell ((subs a).map lotD)), some (.int a), none] = .ret (.lst (((subs a).map (· ++ [a])).map lotD)) := by
        rw [List.map_map]
        refine ev_lcM lotD (subs a) _ (by simp) fun s hs => ?_
        have l1 : s.length + 1 ≤ maxL := by have := (mem_subs.mp hs).len; rw [maxL_eq]; omega
        simp [mkTup, l1]
      have l2 : (subs a).length + (subs a).length ≤ maxL := by rw [subs_len, maxL_eq]; omega
      rw [hql]
      refine ⟨_, by simp; rfl, [some (.int m), some (.cell ((subs (a + 1)).map lotD)), some (.int a), none], ?_, some (.int a), q ++ [a], by rw [hq]; simp, by simp [hql]⟩
      have e4 : (subs (a + 1)).map lotD = (subs a).map lotD ++ ((subs a).map (· ++ [a])).map lotD := by
        show (subs a ++ (subs a).map (· ++ [a])).map lotD = _
        rw [List.map_append]
      rw [e4]
      simp at e3
      simp [e3, l2])
    ⟨none, [], rfl, rfl⟩
  rw [List.append_nil] at hq
  have hql : q.length = m := by rw [← hq]; simp
  rw [hql] at e1
  have hp := pow_le hm
  have e6 := sorted_lots (l := subs m) (by rw [subs_len]; omega) (d := .cell ((subs m).map lotD)) rfl
  simp [mkLst, mkTup, e1, e6, lexLots]
theorem p_greatest_fort (P : PrimH prim) (K : K_greatest_fort fs) (hn : 5 ≤ n) {c : Cr} (h : c.Ok) (l : List Nat) : callF prim fs n "greatest_fort" [crD c, .tup (l.map natD)] = .ret (.tup ((others c.n (tk c (others c.n l))).map natD)) := by
  rw [K.1.call (by omega) rfl [some (crD c), some (.tup (l.map natD))] rfl]
  unfold b_greatest_fort
  have h9 := h.n9
  have e1 := fun l => p_others_of (prim := prim) (n := n - 1) K.2.1 (by omega) (c := c) (by omega) l
  have e2 := p_taken_in (n := n - 1) P K.2.2 (by omega) h (others_lot c.n l).asc.nodup (others_lot c.n l).lt
  simp [e1, e2]
theorem p_fort_in (P : PrimH prim) (K : K_fort_in fs) (hn : 6 ≤ n) {c : Cr} (h : c.Ok) {l : List Nat} (hl : IsLot c.n l) : callF prim fs n "fort_in" [crD c, .tup (l.map natD)] = .ret (optD lotD (if others c.n (tk c (others c.n l)) = [] then none else some (others c.n (tk c (others c.n l))))) := by
  rw [K.1.call (by omega) rfl [some (crD c), some (.tup (l.map natD)), none] rfl]
  unfold b_fort_in
  have e0 := p_check_lot (prim := prim) (n := n - 1) K.2.1 (by omega) hl
  have e1 := p_greatest_fort (n := n - 1) P K.2.2 (by omega) h l
  by_cases hx : others c.n (tk c (others c.n l)) = []
  · rw [hx] at e1
    simp [e0, e1, hx]
  · have : 0 < (others c.n (tk c (others c.n l))).length := List.length_pos_iff.mpr hx
    have h2 : (0 : Int) < (others c.n (tk c (others c.n l))).length := by omega
    simp [e0, e1, hx, h2]
end
end Fm


/-! FpL: the second kind of law's own helpers, on. -/
namespace Fm
open PySem PySem.Spec PyProof.Rows L2
section
variable {prim : Fns} {fs : List DefS} {n : Nat}
theorem p__law_holds_out (K : K__law_holds_out fs) (hn : 2 ≤ n) {c : Cr} (h : c.Ok) {l : List Nat} (hl : IsLot c.n l) : callF prim fs n "_law_holds_out" [partsD c, .tup (l.map natD)] = .ret (.bl (isFortB c l)) := by
  rw [K.1.call (by omega) rfl [some (partsD c), some (.tup (l.map natD)), none, none] rfl]
  unfold b__law_holds_out isFortB keepsOut
  obtain ⟨r, er, hr⟩ := exec_for_inv (F := callF prim fs (n - 1)) (tg := .one 2) (it := .var 1) (b := .cons (.ite (.op .ge (.blt .len (.cons (.lc (.one 3) [3] (.call "_law_near" (.cons (.var 0) (.cons (.var 2) .nil))) (.op .notin (.var 3) (.var 1)) (.var 3)) .nil)) (.ix (.ix (.var 0) (.int 2)) (.var 2))) (.cons (.ret (.bl false)) .nil) .nil) .nil)
    (env := [some (partsD c), some (.tup (l.map natD)), none, none]) natD l
    (fun rest env => ∃ (x : Option D) (q : List Nat), l = q ++ rest ∧ (∀ p ∈ q, ¬ need c p ≤ cntOut c l p) ∧ env = [some (partsD c), some (.tup (l.map natD)), x, none])
    (fun r => (∃ x, r = .nx [some (partsD c), some (.tup (l.map natD)), x, none] ∧ ∀ p ∈ l, ¬ need c p ≤ cntOut c l p) ∨ (∃ e, r = .rt (.bl false) e ∧ ∃ p ∈ l, need c p ≤ cntOut c l p))
    (by simp) rfl
    (fun p rest env _ hI => by
      obtain ⟨x, q, hq, hall, rfl⟩ := hI
      have hpl : p ∈ l := by rw [hq]; simp
      have hp := hl.lt p hpl
      have e1 := p__law_near (prim := prim) (n := n - 1) K.2 (by omega) h p
      have e3 : ev (callF prim fs (n - 1)) (.lc (.one 3) [3] (.call "_law_near" (.cons (.var 0) (.cons (.var 2) .nil))) (.op .notin (.var 3) (.var 1)) (.var 3)) [some (partsD c), some (.tup (l.map natD)), some (.int p), none] = .ret (.lst (((nbs c p).filter fun b => !decide (b ∈ l)).map natD)) :=
        ev_lcF natD (nbs c p) _ _ (by simp [e1]) fun b hb => by simp
      have e4 := need_eq h.nl hp
      by_cases hc : need c p ≤ cntOut c l p
      · have hc' := hc
        unfold cntOut at hc'
        exact ⟨_, by simp; rfl, .rt (.bl false) [some (partsD c), some (.tup (l.map natD)), some (.int p), none], by simp [e3, e4, hc'], .inr ⟨_, rfl, p, hpl, hc⟩⟩
      · have hc' := hc
        unfold cntOut at hc'
        refine ⟨_, by simp; rfl, .nx [some (partsD c), some (.tup (l.map natD)), some (.int p), none], by simp [e3, e4, hc'], some (.int p), q ++ [p], by rw [hq]; simp, fun y hy => ?_, rfl⟩
        rcases List.mem_append.mp hy with z | z
        · exact hall y z
        · rw [List.mem_singleton.mp z]; exact hc)
    (fun e hI => by
      obtain ⟨x, q, hq, hall, rfl⟩ := hI
      rw [List.append_nil] at hq
      subst hq
      exact .inl ⟨x, rfl, hall⟩)
    ⟨none, [], rfl, by simp, rfl⟩
  rcases hr with ⟨x, rfl, hr⟩ | ⟨e, rfl, p, hpl, hp⟩
  · have : (l.all fun p => !decide (need c p ≤ cntOut c l p)) = true := by
      rw [List.all_eq_true]
      intro p hp
      rw [decide_eq_false (hr p hp)]
      rfl
    rw [this]
    simp [er]
  · have : (l.all fun p => !decide (need c p ≤ cntOut c l p)) = false := by
      rw [List.all_eq_false]
      exact ⟨p, hpl, by rw [decide_eq_true hp]; decide⟩
    rw [this]
    simp [er]
/-- all that are of some lots, one behind another -/
def joinGo (lots : List (List Nat)) : List Nat := lots.foldl (fun f l => f ++ l.filter fun x => !decide (x ∈ f)) []
theorem joinGo_snoc (lots : List (List Nat)) (l : List Nat) : joinGo (lots ++ [l]) = joinGo lots ++ l.filter fun x => !decide (x ∈ joinGo lots) := by
  unfold joinGo
  rw [List.foldl_append]
  rfl
theorem joinGo_ok {m : Nat} : ∀ r : List (List Nat), (∀ l ∈ r.reverse, IsLot m l) → (joinGo r.reverse).Nodup ∧ ∀ x, x ∈ joinGo r.reverse ↔ ∃ l ∈ r.reverse, x ∈ l
  | [], _ => by simp [joinGo]
  | l :: r, h => by
    rw [List.reverse_cons] at h ⊢
    obtain ⟨i1, i2⟩ := joinGo_ok r fun x hx => h x (List.mem_append_left _ hx)
    have hl := h l (by simp)
    rw [joinGo_snoc]
    refine ⟨List.nodup_append.mpr ⟨i1, hl.asc.nodup.filter _, fun a ha b hb e => ?_⟩, fun x => ?_⟩
    · have := (List.mem_filter.mp hb).2
      rw [← e] at this
      simp [ha] at this
    · rw [List.mem_append, List.mem_filter, Bool.not_eq_true', decide_eq_false_iff_not, i2]
      constructor
      · rintro (⟨k, hk, hx⟩ | ⟨hx, _⟩)
        · exact ⟨k, List.mem_append_left _ hk, hx⟩
        · exact ⟨l, by simp, hx⟩
      · rintro ⟨k, hk, hx⟩
        rcases List.mem_append.mp hk with hk | hk
        · exact .inl ⟨k, hk, hx⟩
        · rw [List.mem_singleton.mp hk] at hx
          by_cases z : ∃ l ∈ r.reverse, x ∈ l
          · exact .inl z
          · exact .inr ⟨hx, z⟩
theorem join_ok {m : Nat} {lots : List (List Nat)} (h : ∀ l ∈ lots, IsLot m l) : (joinGo lots).Nodup ∧ ∀ x, x ∈ joinGo lots ↔ ∃ l ∈ lots, x ∈ l := by
  have := joinGo_ok (m := m) lots.reverse
  rw [List.reverse_reverse] at this
  exact this h
theorem join_len {m : Nat} {lots : List (List Nat)} (h : ∀ l ∈ lots, IsLot m l) : (joinGo lots).length ≤ m :=
  nodup_le (join_ok h).1 fun x hx => by
    obtain ⟨l, hl, hx⟩ := ((join_ok h).2 x).mp hx
    exact (h l hl).lt x hx
def joinO (lots : List (List Nat)) : Option (List Nat) := if lots = [] then none else some (sortN (joinGo lots))
theorem p__law_join (K : K__law_join fs) (hn : 1 ≤ n) {m : Nat} (hm : m ≤ 100) {lots : List (List Nat)} (h : ∀ l ∈ lots, IsLot m l) : callF prim fs n "_law_join" [.lst (lots.map lotD)] = .ret (optD lotD (joinO lots)) := by
  rw [K.call (by omega) rfl [some (.lst (lots.map lotD)), none, none, none] rfl]
  unfold b__law_join joinO
  obtain ⟨e, e1, x, q, hq, rfl⟩ := exec_for_nx (F := callF prim fs (n - 1)) (tg := .one 2) (it := .var 0) (b := .cons (.set (.one 1) (.op .add (.var 1) (.lc (.one 3) [3] (.var 2) (.op .notin (.var 3) (.var 1)) (.var 3)))) .nil)
    (env := [some (.lst (lots.map lotD)), some (.cell []), none, none]) lotD lots
    (fun rest env => ∃ (x : Option D) (q : List (List Nat)), lots = q ++ rest ∧ env = [some (.lst (lots.map lotD)), some (.cell ((joinGo q).map natD)), x, none])
    (by simp) rfl
    (fun a rest env _ hI => by
      obtain ⟨x, q, hq, rfl⟩ := hI
      have e3 : ev (callF prim fs (n - 1)) (.lc (.one 3) [3] (.var 2) (.op .notin (.var 3) (.var 1)) (.var 3)) [some (.lst (lots.map lotD)), some (.cell ((joinGo q).map natD)), some (lotD a), none] = .ret (.lst ((a.filter fun x => !decide (x ∈ joinGo q)).map natD)) :=
        ev_lcF natD a _ _ (by simp) fun x hx => by simp
      have l1 := join_len (m := m) (lots := q ++ [a]) fun l hl => h l (by
        rw [hq]
        rcases List.mem_append.mp hl with z | z
        · exact List.mem_append_left _ z
        · rw [List.mem_singleton.mp z]; simp)
      rw [joinGo_snoc, List.length_append] at l1
      have l2 : (joinGo q).length + (a.filter fun x => !decide (x ∈ joinGo q)).length ≤ maxL := by rw [maxL_eq]; omega
      refine ⟨_, by simp; rfl, [some (.lst (lots.map lotD)), some (.cell ((joinGo (q ++ [a])).map natD)), some (lotD a), none], ?_, some (lotD a), q ++ [a], by rw [hq]; simp, rfl⟩
      rw [joinGo_snoc]
      simp at e3
      simp [e3, l2])
    ⟨none, [], rfl, by simp [joinGo]⟩
  rw [List.append_nil] at hq
  subst hq
  have l1 : (joinGo lots).length ≤ maxL := by have := join_len h; rw [maxL_eq]; omega
  by_cases h0 : lots = []
  · subst h0
    simp at e1
    simp [mkLst, e1]
  · have : 0 < lots.length := List.length_pos_iff.mpr h0
    have h2 : (0 : Int) < lots.length := by omega
    simp [mkLst, e1, h0, h2, l1]
def isOrd (c : Cr) : List Nat → List Nat → Bool
  | _, [] => true
  | S, p :: r => decide (p < c.n) && (!decide (p ∈ S) && (decide (need c p ≤ cnt c S p) && isOrd c (S ++ [p]) r))
theorem isOrd_ordIn (c : Cr) : ∀ (k : Nat) (S : List Nat), isOrd c S (ordIn c k S) = true
  | 0, S => rfl
  | k + 1, S => by
    unfold ordIn
    split
    · rfl
    · rename_i p r e
      have hp : p ∈ canIn c S := by rw [e]; exact .head _
      obtain ⟨h1, h2, h3⟩ := mem_canIn.mp hp
      show (decide (p < c.n) && (!decide (p ∈ S) && (decide (need c p ≤ cnt c S p) && isOrd c (S ++ [p]) (ordIn c k (S ++ [p]))))) = true
      rw [isOrd_ordIn c k, decide_eq_true h1, decide_eq_false h2, decide_eq_true h3]
      rfl
theorem p_is_order_in (P : PrimH prim) (K : K_is_order_in fs) (hn : 3 ≤ n) {c : Cr} (h : c.Ok) {f : List Nat} (hf : f.length ≤ 1000) {row : List Nat} (hr : row.length ≤ 1000) : callF prim fs n "is_order_in" [crD c, .tup (f.map natD), .tup (row.map natD)] = .ret (.bl (isOrd c f row)) := by
  rw [K.1.call (by omega) rfl [some (crD c), some (.tup (f.map natD)), some (.tup (row.map natD)), none, none] rfl]
  unfold b_is_order_in
  obtain ⟨r, er, hr⟩ := exec_for_inv (F := callF prim fs (n - 1)) (tg := .one 4) (it := .var 2) (b := .cons (.ite (.or (.nt (.call "is_within" (.cons (.var 4) (.cons (.int 0) (.cons (.op .sub (.attr (.var 0) "persons") (.int 1)) .nil))))) (.or (.op .isin (.var 4) (.var 3)) (.nt (.call "can_take" (.cons (.var 0) (.cons (.var 3) (.cons (.var 4) .nil))))))) (.cons (.ret (.bl false)) .nil) .nil) (.cons (.app 3 (.var 4)) .nil))
    (env := [some (crD c), some (.tup (f.map natD)), some (.tup (row.map natD)), some (.cell (f.map natD)), none]) natD row
    (fun rest env => ∃ (x : Option D) (S : List Nat), isOrd c f row = isOrd c S rest ∧ S.length + rest.length ≤ 2000 ∧ env = [some (crD c), some (.tup (f.map natD)), some (.tup (row.map natD)), some (.cell (S.map natD)), x])
    (fun r => (∃ e, r = .nx e ∧ isOrd c f row = true) ∨ (∃ e, r = .rt (.bl false) e ∧ isOrd c f row = false))
    (by simp) rfl
    (fun p rest env _ hI => by
      obtain ⟨x, S, hS, hl, rfl⟩ := hI
      simp only [List.length_cons] at hl
      have hS' : isOrd c f row = (decide (p < c.n) && (!decide (p ∈ S) && (decide (need c p ≤ cnt c S p) && isOrd c (S ++ [p]) rest))) := hS
      have e1 := p_is_within (prim := prim) (n := n - 1) K.2.1 (by omega) (p : Int) 0 ((c.n : Int) - 1)
      have l1 : S.length < maxL := by rw [maxL_eq]; omega
      by_cases h1 : p < c.n
      · have e2 : decide ((0 : Int) ≤ p ∧ (p : Int) ≤ (c.n : Int) - 1) = true := decide_eq_true (by omega)
        rw [e2] at e1
        by_cases h2 : p ∈ S
        · rw [decide_eq_true h2] at hS'
          exact ⟨_, by simp; rfl, .rt (.bl false) [some (crD c), some (.tup (f.map natD)), some (.tup (row.map natD)), some (.cell (S.map natD)), some (.int p)], by simp [e1, h2], .inr ⟨_, rfl, by rw [hS']; simp⟩⟩
        · have e3 := p_can_take (n := n - 1) (S := S) (ld := .lst (S.map natD)) P K.2.2 (by omega) h h1 (.inr rfl)
          by_cases h3 : need c p ≤ cnt c S p
          · rw [decide_eq_true h1, decide_eq_false h2, decide_eq_true h3] at hS'
            exact ⟨_, by simp; rfl, .nx [some (crD c), some (.tup (f.map natD)), some (.tup (row.map natD)), some (.cell ((S ++ [p]).map natD)), some (.int p)], by simp [e1, h2, e3, h3, l1], some (.int p), S ++ [p], by rw [hS']; simp, by simp; omega, rfl⟩
          · rw [decide_eq_false h3] at hS'
            exact ⟨_, by simp; rfl, .rt (.bl false) [some (crD c), some (.tup (f.map natD)), some (.tup (row.map natD)), some (.cell (S.map natD)), some (.int p)], by simp [e1, h2, e3, h3], .inr ⟨_, rfl, by rw [hS']; simp⟩⟩
      · have e2 : decide ((0 : Int) ≤ p ∧ (p : Int) ≤ (c.n : Int) - 1) = false := decide_eq_false (by omega)
        rw [e2] at e1
        rw [decide_eq_false h1] at hS'
        exact ⟨_, by simp; rfl, .rt (.bl false) [some (crD c), some (.tup (f.map natD)), some (.tup (row.map natD)), some (.cell (S.map natD)), some (.int p)], by simp [e1], .inr ⟨_, rfl, by rw [hS']; simp⟩⟩)
    (fun e hI => by
      obtain ⟨x, S, hS, hl, rfl⟩ := hI
      exact .inl ⟨_, rfl, hS⟩)
    ⟨none, f, rfl, by omega, rfl⟩
  rcases hr with ⟨e, rfl, hr⟩ | ⟨e, rfl, hr⟩
  · rw [hr]
    simp [er]
  · rw [hr]
    simp [er]
theorem p_is_fort (P : PrimH prim) (K : K_is_fort fs) (hn : 5 ≤ n) {c : Cr} (h : c.Ok) {l : List Nat} (hl : IsLot c.n l) : callF prim fs n "is_fort" [crD c, .tup (l.map natD)] = .ret (.bl (isFortB c l)) := by
  rw [K.1.call (by omega) rfl [some (crD c), some (.tup (l.map natD))] rfl]
  unfold b_is_fort isFortB
  have e1 := p_is_lot_of (prim := prim) (n := n - 1) K.2.1 (by omega) hl
  have e2 := p_keeps_out (n := n - 1) P K.2.2 (by omega) h hl
  by_cases h0 : 0 < l.length
  · have h2 : (0 : Int) < l.length := by omega
    simp [e1, e2, h0, h2]
  · have h2 : ¬ (0 : Int) < l.length := by omega
    simp [e1, e2, h0, h2]
def tagD (w : String) (d : D) : D := .tup [.str (Str.ofString w), d]
theorem str_ka : eqD (.str (Str.ofString "kept")) (.str (Str.ofString "all")) = .ret false := (eqD_of (by decide +kernel) (by decide +kernel)).trans (congrArg T.ret (by decide +kernel))
theorem str_aa : eqD (.str (Str.ofString "all")) (.str (Str.ofString "all")) = .ret true := (eqD_of (by decide +kernel) (by decide +kernel)).trans (congrArg T.ret (by decide +kernel))
theorem str_kk : eqD (.str (Str.ofString "kept")) (.str (Str.ofString "kept")) = .ret true := (eqD_of (by decide +kernel) (by decide +kernel)).trans (congrArg T.ret (by decide +kernel))
theorem str_ak : eqD (.str (Str.ofString "all")) (.str (Str.ofString "kept")) = .ret false := (eqD_of (by decide +kernel) (by decide +kernel)).trans (congrArg T.ret (by decide +kernel))
theorem p_is_enough_kept (P : PrimH prim) (K : K_is_enough fs) (hn : 6 ≤ n) {c : Cr} (h : c.Ok) {f : List Nat} (hf : IsLot c.n f) {X : List Nat} (hX : IsLot c.n X) : callF prim fs n "is_enough" [crD c, .tup (f.map natD), .tup [.str (Str.ofString "kept"), .tup (X.map natD)]] = .ret (.bl (isFortB c X && !(f.any fun x => decide (x ∈ X)))) := by
  rw [K.1.call (by omega) rfl [some (crD c), some (.tup (f.map natD)), some (.tup [.str (Str.ofString "kept"), .tup (X.map natD)]), none] rfl]
  unfold b_is_enough
  have e0 := p_check_lot (prim := prim) (n := n - 1) K.2.1 (by omega) hf
  have e1 := p_is_tuple (prim := prim) (n := n - 1) K.2.2.1 (by omega) [.str (Str.ofString "kept"), .tup (X.map natD)] 2 2
  have e2 := p_is_fort (n := n - 1) P K.2.2.2.2 (by omega) h hX
  have e3 : ev (callF prim fs (n - 1)) (.lc (.one 3) [3] (.var 1) .nil (.op .isin (.var 3) (.ix (.var 2) (.int 1)))) [some (crD c), some (.tup (f.map natD)), some (.tup [.str (Str.ofString "kept"), .tup (X.map natD)]), none] = .ret (.lst (f.map fun x => .bl (decide (x ∈ X)))) :=
    ev_lcM natD f _ (by simp) fun x hx => by simp
  simp at e1
  cases hfo : isFortB c X with
  | true =>
    rw [hfo] at e2
    simp [e0, e1, e2, e3, str_ka, str_kk]
  | false =>
    rw [hfo] at e2
    simp [e0, e1, e2, e3, str_ka, str_kk]
theorem p_is_enough_all (P : PrimH prim) (K : K_is_enough fs) (hn : 6 ≤ n) {c : Cr} (h : c.Ok) {f : List Nat} (hf : IsLot c.n f) {row : List Nat} (hr : row.length ≤ 1000) : callF prim fs n "is_enough" [crD c, .tup (f.map natD), .tup [.str (Str.ofString "all"), .tup (row.map natD)]] = .ret (.bl (isOrd c f row && decide (row.length + f.length = c.n))) := by
  rw [K.1.call (by omega) rfl [some (crD c), some (.tup (f.map natD)), some (.tup [.str (Str.ofString "all"), .tup (row.map natD)]), none] rfl]
  unfold b_is_enough
  have h9 := h.n9
  have e0 := p_check_lot (prim := prim) (n := n - 1) K.2.1 (by omega) hf
  have e1 := p_is_tuple (prim := prim) (n := n - 1) K.2.2.1 (by omega) [.str (Str.ofString "all"), .tup (row.map natD)] 2 2
  have e2 := p_is_order_in (n := n - 1) P K.2.2.2.1 (by omega) h (f := f) (by have := hf.len; omega) hr
  have e3 : decide ((row.length : Int) = (c.n : Int) - f.length) = decide (row.length + f.length = c.n) := decide_eq_decide.mpr (by omega)
  simp at e1
  cases hfo : isOrd c f row with
  | true =>
    rw [hfo] at e2
    simp [e0, e1, e2, eqD_ints, str_aa, e3]
  | false =>
    rw [hfo] at e2
    simp [e0, e1, e2, eqD_ints, str_aa]
theorem p__law_crowdC (P : PrimH prim) (K : K__law_crowdC fs) (hn : 2 ≤ n) {most : Nat} (hm : 1 ≤ most ∧ most ≤ 9) {q : D → Prop} (hq : ∀ c : Cr, c.Ok → c.n ≤ most → q (partsD c)) : Wp (callF prim fs n "_law_crowd" [.hand, .int most]) q := by
  rw [K.1.call (by omega) rfl [some .hand, some (.int most), none, none, none, none, none, none, none, none, none] rfl]
  unfold b__law_crowdC
  have e1 := fun m h => p_drawI (n := n - 1) (m := m) P K.2.1 h
  have e5 := e1 5 (by omega)
  have e3 := e1 most (by omega)
  simp [e5, e3, mkLst]
  intro i hi kind hkind
  rw [show (1 + (i : Int)) = ((1 + i : Nat) : Int) by omega]
  have hm1 : 1 ≤ 1 + i ∧ 1 + i ≤ 9 := by omega
  have hm2 : 1 + i ≤ most := by omega
  generalize 1 + i = m at hm1 hm2 ⊢
  refine wp_bindI ?_
  refine p__law_any P K.2.2 (by omega) (.inl rfl) (by simp) fun z hz => ?_
  obtain ⟨thin, hthin, rfl⟩ : ∃ t : Nat, (1 ≤ t ∧ t ≤ 9) ∧ z = .int t := by
    simp only [List.mem_cons, List.not_mem_nil, or_false] at hz
    rcases hz with rfl | rfl | rfl
    · exact ⟨2, by omega, rfl⟩
    · exact ⟨3, by omega, rfl⟩
    · exact ⟨4, by omega, rfl⟩
  have e6 := e1 thin (by omega)
  simp
  refine fin_seq_wp (exec_for_wpn natD (List.range m) (fun rest env => ∃ (qq : List Nat) (ts : List (Nat × Nat)) (x y z : Option D), List.range m = qq ++ rest ∧ (∀ t ∈ ts, t.1 < t.2 ∧ t.2 < m ∧ t.1 < qq.length) ∧ ts.Pairwise ltP ∧ env = [some .hand, some (.int most), x, none, some (.int m), some (.cell (ts.map tieD)), some (.int kind), some (.int thin), y, z, none])
    (by simp [rng1_nat (show m ≤ 1000 by omega)]) rfl (fun a rest env hx hI => ?_) ⟨[], [], none, none, none, rfl, by simp, by simp, by simp⟩ fun e hI => ?_)
  · obtain ⟨qq, ts, x, y, z, hq2, ht, hsr, rfl⟩ := hI
    obtain ⟨hq3, ha⟩ := range_split hq2
    have hqa : qq.length = a := by rw [hq3]; simp
    refine ⟨_, by simp; rfl, fun Qs hQ => ?_⟩
    have r2 := rng2_nat (a := a + 1) (m := m) (by omega) (by omega)
    simp at r2
    simp
    refine seq_wp (exec_for_wpn natD (List.range' (a + 1) (m - (a + 1))) (fun rest env => ∃ (q2 : List Nat) (ts : List (Nat × Nat)) (y z : Option D), List.range' (a + 1) (m - (a + 1)) = q2 ++ rest ∧ (∀ t ∈ ts, t.1 < t.2 ∧ t.2 < m ∧ (t.1 < a ∨ (t.1 = a ∧ t.2 < a + 1 + q2.length))) ∧ ts.Pairwise ltP ∧ env = [some .hand, some (.int most), some (.int a), none, some (.int m), some (.cell (ts.map tieD)), some (.int kind), some (.int thin), y, z, none])
      (by simp [r2]) rfl (fun b rest2 env hx2 hI => ?_) ⟨[], ts, y, z, rfl, fun t hh => ⟨(ht t hh).1, (ht t hh).2.1, .inl (by have := (ht t hh).2.2; omega)⟩, hsr, rfl⟩ fun e hI => ?_)
    · obtain ⟨q2, ts, y, z, hq4, ht, hsr, rfl⟩ := hI
      have hb : b = a + 1 + q2.length ∧ b < m := by
        have h1 : (List.range' (a + 1) (m - (a + 1)))[q2.length]? = some b := by
          rw [hq4, List.getElem?_append_right (Nat.le_refl _), Nat.sub_self]
          rfl
        have hlt : q2.length < m - (a + 1) := by
          have := congrArg List.length hq4
          simp at this
          omega
        rw [List.getElem?_range' hlt] at h1
        have := Option.some.inj h1
        omega
      have l1 := pairs_len (m := 9) (fun t hh => ⟨(ht t hh).1, by have := (ht t hh).2; omega⟩) (pairwise_ne hsr)
      have l2 : ts.length < maxL := by rw [maxL_eq]; omega
      refine ⟨_, by simp; rfl, fun Qs hQ => ?_⟩
      -- kept or not
      have yes : ∀ w, Qs (.nx [some .hand, some (.int most), some (.int a), none, some (.int m), some (.cell (ts.map tieD ++ [.tup [.int a, .int b]])), some (.int kind), some (.int thin), some (.int b), some w, none]) := fun w => hQ _ ⟨q2 ++ [b], ts ++ [(a, b)], some (.int b), some w, by rw [hq4]; simp, fun t hh => by
          rw [List.length_append, List.length_singleton]
          rcases List.mem_append.mp hh with hh | hh
          · have := ht t hh
            omega
          · rw [List.mem_singleton.mp hh]
            exact ⟨by show a < b; omega, hb.2, .inr ⟨rfl, by show b < a + 1 + (q2.length + 1); omega⟩⟩, List.pairwise_append.mpr ⟨hsr, List.pairwise_singleton _ _, fun t hh u hu => by
          rw [List.mem_singleton.mp hu]
          have := ht t hh
          show t.1 < a ∨ (t.1 = a ∧ t.2 < b)
          omega⟩, by simp⟩
      have no : ∀ w, Qs (.nx [some .hand, some (.int most), some (.int a), none, some (.int m), some (.cell (ts.map tieD)), some (.int kind), some (.int thin), some (.int b), some w, none]) := fun w => hQ _ ⟨q2 ++ [b], ts, some (.int b), some w, by rw [hq4]; simp, fun t hh => by
          rw [List.length_append, List.length_singleton]
          have := ht t hh
          omega, hsr, rfl⟩
      simp [mkTup, eqD_ints, eqD_pairI, l2, e6]
      split
      · exact ⟨yes _⟩
      · split
        · exact ⟨yes _⟩
        · simp
          intro j hj
          split
          · exact ⟨yes _⟩
          · exact ⟨no _⟩
    · obtain ⟨q2, ts, y, z, hq4, ht, hsr, rfl⟩ := hI
      have hq5 : q2.length = m - (a + 1) := by
        have := congrArg List.length hq4
        simp at this
        omega
      simp
      refine hQ _ ⟨qq ++ [a], ts, some (.int a), y, z, by rw [hq2]; simp, fun t hh => ?_, hsr, rfl⟩
      rw [List.length_append, List.length_singleton]
      have := ht t hh
      omega
  · obtain ⟨qq, ts, x, y, z, hq2, ht, hsr, rfl⟩ := hI
    rw [List.append_nil] at hq2
    have ht' : ∀ t ∈ ts, t.1 < t.2 ∧ t.2 < m := fun t hh => ⟨(ht t hh).1, (ht t hh).2.1⟩
    simp [mkLst]
    refine wp_bindI ?_
    refine p__law_any P K.2.2 (by omega) (.inl rfl) (by simp) fun menu hmenu => ?_
    obtain ⟨mn, hmn, rfl⟩ : ∃ mn : List Nat, (mn ≠ [] ∧ mn.length ≤ 9 ∧ ∀ k ∈ mn, k ≤ 9) ∧ menu = .lst (mn.map natD) := by
      simp only [List.mem_cons, List.not_mem_nil, or_false] at hmenu
      rcases hmenu with rfl | rfl | rfl | rfl | rfl
      · exact ⟨[1], by simp, rfl⟩
      · exact ⟨[2], by simp, rfl⟩
      · exact ⟨[1, 2], by simp, rfl⟩
      · exact ⟨[1, 1, 2, 3], by simp, rfl⟩
      · exact ⟨[0, 1, 2, 2, 3, 9], by simp, rfl⟩
    simp
    have hl0 : 0 < mn.length := List.length_pos_iff.mpr hmn.1
    have key : ∀ (l : List Nat) (env : Env) (Qs : List D → Prop), (∀ ns : List Nat, ns.length = l.length → (∀ k ∈ ns, k ≤ 9) → Qs (ns.map natD)) → (∀ a, ∃ e2, bindTg (.one 10) (natD a) (wipeE env [10]) = .ret e2 ∧ getv e2 0 = .ret .hand ∧ getv e2 3 = .ret (.lst (mn.map natD))) →
        Wp (lcT (lcStep (callF prim fs (n - 1)) (.one 10) [10] .nil (.call "_law_any" (.cons (.var 0) (.cons (.var 3) .nil))) env) (l.map natD)) Qs := fun l env => by
      induction l with
      | nil => exact fun Qs h _ => ⟨h [] rfl (by simp)⟩
      | cons a l ih =>
        intro Qs h hb
        show Wp (lcStep _ _ _ _ _ env (natD a) >>= fun o => lcT _ (l.map natD) >>= fun rest => T.ret (match o with | some y => y :: rest | none => rest)) Qs
        obtain ⟨e2, b1, b2, b3⟩ := hb a
        refine wp_bindI ?_
        rw [lcStep_eq, b1, ret_bind]
        simp [b2, b3]
        refine wp_bindI ?_
        refine p__law_any P K.2.2 (by omega) (.inl rfl) (by simp; omega) fun z hz => ?_
        obtain ⟨k, hk, rfl⟩ := List.mem_map.mp hz
        simp
        refine wp_bindI (ih _ (fun ns hn1 hn2 => ?_) hb)
        exact ⟨h (k :: ns) (by simp [hn1]) fun x hx => by
          rcases List.mem_cons.mp hx with rfl | hx
          · exact hmn.2.2 x hk
          · exact hn2 x hx⟩
    rw [ev_lc]
    simp [rng1_nat (show m ≤ 1000 by omega)]
    refine wp_bindI (key _ _ _ (fun ns hn1 hn2 => ?_) fun a => ⟨_, by simp; rfl, rfl, rfl⟩)
    simp [mkTup]
    exact hq ⟨m, ts, ns⟩ ⟨hm1.1, hm1.2, ht', hsr, by simpa using hn1, hn2⟩ hm2
end
end Fm


/-! FpR: Crowd.__eq__ keeps its promise. -/
namespace Fm
open PySem PySem.Spec PyProof.Rows L2
/-- what the class of crowds has from object -/
structure EqK (K : PySem.W.Frag) (C : Addr) : Prop where
  cl : PySem.W.findIn K (.ref C) "__class__" = some (some (.builtin "object.__class__"))
  get : PySem.W.specialIn K (.builtin "object.__class__") "__get__" = some (some (.builtin "getset_descriptor.__get__"))
  tk : PySem.W.takesIn K (.builtin "object.__class__") = some true
  mro : PySem.W.mroIn K C (.type "object") = some true
  ne : PySem.W.findIn K (.ref C) "__ne__" = some (some (.builtin "object.__ne__"))
  kit : PySem.W.kitOne K (.ref C) (.ref C) = some true
def eqKb (K : PySem.W.Frag) (C : Addr) : Bool := He.eqO (PySem.W.findIn K (.ref C) "__class__") (some (some (.builtin "object.__class__"))) && (He.eqO (PySem.W.specialIn K (.builtin "object.__class__") "__get__") (some (some (.builtin "getset_descriptor.__get__"))) &&
  (decide (PySem.W.takesIn K (.builtin "object.__class__") = some true) && (decide (PySem.W.mroIn K C (.type "object") = some true) && (He.eqO (PySem.W.findIn K (.ref C) "__ne__") (some (some (.builtin "object.__ne__"))) && decide (PySem.W.kitOne K (.ref C) (.ref C) = some true)))))
theorem eqK_of {K : PySem.W.Frag} {C : Addr} (h : eqKb K C = true) : EqK K C := by
  unfold eqKb at h
  simp only [Bool.and_eq_true, decide_eq_true_eq] at h
  exact ⟨He.eqO_ok h.1, He.eqO_ok h.2.1, h.2.2.1, h.2.2.2.1, He.eqO_ok h.2.2.2.2.1, h.2.2.2.2.2⟩
/-- the head's hook, with what the class of crowds has from object -/
def obsEq (n : Nat) (fa : List He.Fa) (fn : List He.DefD) (g : Addr → Option Obj) : He.AlD × Bool := (He.obsDG n fa fn g, eqKb (He.frG g (He.asD g n)) (He.ga (He.frG g (He.asD g n)) "Crowd"))
def hookEq (n : Nat) (fa : List He.Fa) (fn : List He.DefD) : PySem.W.Hook where
  α := He.AlD × Bool
  obs := fun s => obsEq n fa fn s.heap.get?
  val := fun _ => (He.valD fn, true)
  says := fun _ h => ∃ K : PySem.W.Frag, K.In h ∧ He.SaysD fa fn K ∧ eqKb K (He.ga K "Crowd") = true
  of := fun _ _ e => ⟨_, He.frG_in, congrArg Prod.fst e, congrArg Prod.snd e⟩
  keeps := fun _ _ _ ⟨K, hK, c⟩ k => ⟨K, PySem.W.Frag.In.keeps hK k, c⟩
theorem obsEq_eq {n : Nat} {fa : List He.Fa} {fn : List He.DefD} {g : Addr → Option Obj} {s : Shared} (h : ∀ a, g a = s.heap.get? a) : obsEq n fa fn g = (hookEq n fa fn).obs s := by
  have e : g = s.heap.get? := funext h
  rw [e] <;> rfl
def sParts : S := (.cons (.ret (.tup (.cons (.attr (.var 0) "persons") (.cons (.attr (.var 0) "ties") (.cons (.attr (.var 0) "needs") .nil))))) .nil)
def trD (n : Nat) (ts : List (Nat × Nat)) (ns : List Nat) : D := .tup [.int n, tiesD ts, needsD ns]
def spPt (W : Wd) : Sp := fun vs H Q _ => ∃ Z G n ts ns, GInv W G H ∧ ZOk Z G H ∧ RelL W Z G H vs [.crowd n ts ns] ∧ ∀ G' H' v, Ext G H G' H' → GInv W G' H' → Rel W Z G' H' v (trD n ts ns) → Q v H'
theorem exec_parts (N : List Str) (n : Nat) (ts : List (Nat × Nat)) (ns : List Nat) : (exec noF sParts (envOf N [.crowd n ts ns]) >>= endT) = .ret (trD n ts ns) := by
  unfold envOf
  rfl
section
variable {W : Wd} {P : Program} {w : World} {mg : Str → Option Value} {base : Heap} {gi : List (String × Int)}
theorem parts_fn (fa : Facts W mg gi) {f : Addr} {fd : FuncData} {x q : Str} {params : Arguments} {body : List Stmt} {scope : Scope} {N ps : List Str} (h2 : FunD W.K x q params body scope [] [] f fd) (h4 : FnScope N ps scope) (hp : ps.length = 1)
    (h5 : chkSs ⟨N, [], gi⟩ scope sParts body = true) : FnOk P w W.K mg base CX0 1 f fd ps (spPt W) := by
  refine h2.ok (k := 0) h4 (fun vs H Q E h => ?_) fun cdv A outer st H vs Q E hr h => ⟨rdS W noF sParts, PSs.nox ((stmts_ok W noF ⟨N, [], gi⟩ sParts).2 scope _ body (cn_of (outer := []) fa h4 hr) h5), ?_⟩
  · obtain ⟨Z, G, n, ts, ns, _, _, r, _⟩ := h
    rw [r.length, hp]
    rfl
  · obtain ⟨Z, G, n, ts, ns, g, zo, r, hq⟩ := h
    refine body_in g zo r ?_
    rw [exec_parts]
    exact fun G' H' v e g r => hq G' H' v e g r
def chkEq (k : Kn) (sc : Scope) : List Stmt → Bool
  | [.Return (some (.BoolOp .And [.Call (.Name x p1) [o1, .Name y p2] [] p3, .Compare (.Call (.Attribute s1 f1 p4) [] [] p5) [.Eq] [.Call (.Attribute o2 f2 p6) [] [] p7] p8] p9)) p10] =>
    decide (x = "isinstance") && (decide (y = "Crowd") && (decide (f1 = "parts") && (decide (f2 = "parts") && (gl sc x && (gl sc y && ((p4.endLine == p5.line) && ((p6.endLine == p7.line) && (chkE k (.var 1) sc none o1 && (chkE k (.var 0) sc none s1 && chkE k (.var 1) sc none o2)))))))))
  | _ => false
theorem meth0_var {X : Cx} {CX : CXT} {kk : Nat} {C f : Addr} {fd : FuncData} {ps : List Str} {sp : Sp} {E : XK} {k : Kn} {sc : Scope} {i : Nat} {o : Expr} {apos pos : Pos} {ta : TE} (hl : (apos.endLine == pos.line) = true) (ho : chkE k (.var i) sc none o = true) (he : PE X o ta) (c : Cls X.K C) (hm : Meth X.K C "parts" f) (F : FnOk X.prog X.w X.K X.mg X.base CX kk f fd ps sp) (hr : Room kk X.A) (hb : Binds X.K fd ps []) (hx : Passes CX X E) :
    PE X (.Call (.Attribute o "parts" apos) [] [] pos) (tMeth C "parts" sp [] E ta tNil) := by
  unfold chkE at ho
  cases o <;> first | cases ho | skip
  refine pe_meth0 (pl := ?_) he c hm F hr hb .nil hx (mcall_of (args := []) (kws := []) rfl fun ov => ?_)
  rotate_left 1
  · unfold methodCall methodCallPos
    rw [hl]
    rfl
theorem star_var {k : Kn} {sc : Scope} {i : Nat} {o : Expr} (ho : chkE k (.var i) sc none o = true) : notStar o = true := by
  unfold chkE at ho
  cases o <;> first | cases ho | rfl
theorem trD_eq (n n2 : Nat) (ts ts2 : List (Nat × Nat)) (ns ns2 : List Nat) : PyData.eqv (trD n ts ns).toP (trD n2 ts2 ns2).toP = decide (n = n2 ∧ ts = ts2 ∧ ns = ns2) := by
  have h1 := (inferInstance : Cod natD 0).eq n n2
  have h2 := eqv_tup tieD ts ts2
  have h3 := eqv_tup natD ns ns2
  show (PyData.eqv (natD n).toP (natD n2).toP && (PyData.eqv (D.tup (ts.map tieD)).toP (D.tup (ts2.map tieD)).toP && (PyData.eqv (D.tup (ns.map natD)).toP (D.tup (ns2.map natD)).toP && true))) = _
  rw [h1, h2, h3]
  by_cases e1 : n = n2 <;> by_cases e2 : ts = ts2 <;> by_cases e3 : ns = ns2 <;> simp [e1, e2, e3]
theorem trD_sh (n : Nat) (ts : List (Nat × Nat)) (ns : List Nat) : SeqAt.shaped (trD n ts ns).toP = true := by
  have l2 := (codTup tieD).lay ts
  have l3 := (codTup natD).lay ns
  have d2 := (codTup tieD).dep ts
  have d3 := (codTup natD).dep ns
  unfold SeqAt.shaped
  rw [Bool.and_eq_true, decide_eq_true_eq]
  refine ⟨?_, ?_⟩
  · show (true && ((D.tup (ts.map tieD)).toP.canLay0 && ((D.tup (ns.map natD)).toP.canLay0 && true))) = true
    rw [l2, l3]
    rfl
  · show Nat.succ (max 0 (max (D.tup (ts.map tieD)).toP.depth (max (D.tup (ns.map natD)).toP.depth 0))) ≤ 64
    omega
theorem crowdF_no (n : Nat) (t u l : Addr) : (crowdF n t u l).lookup ("parts" : Str) = none := by
  have h1 : (("parts" : Str) == ("persons" : Str)) = false := by decide +kernel
  have h2 : (("parts" : Str) == ("ties" : Str)) = false := by decide +kernel
  have h3 : (("parts" : Str) == ("needs" : Str)) = false := by decide +kernel
  have h4 : (("parts" : Str) == ("looked" : Str)) = false := by decide +kernel
  simp only [crowdF, List.lookup, h1, h2, h3, h4]
theorem eq_fn (fa : Facts W mg gi) (ek : EqK W.K W.C) (hmg : mg "Crowd" = some (.ref W.C))
    {fp : Addr} {fdp : FuncData} {xp qp : Str} {paramsp : Arguments} {bodyp : List Stmt} {scopep : Scope} {Np psp : List Str} (mp : Meth W.K W.C "parts" fp) (p2 : FunD W.K xp qp paramsp bodyp scopep [] [] fp fdp) (p3 : Binds W.K fdp psp []) (p4 : FnScope Np psp scopep) (hp : psp.length = 1)
    (p5 : chkSs ⟨Np, [], gi⟩ scopep sParts bodyp = true)
    {fe : Addr} {fde : FuncData} {xe qe : Str} {paramse : Arguments} {bodye : List Stmt} {scopee : Scope} {Ne pse : List Str} (me : Meth W.K W.C "__eq__" fe) (e2 : FunD W.K xe qe paramse bodye scopee [] [] fe fde) (e3 : Binds W.K fde pse []) (e4 : FnScope Ne pse scopee) (he : pse.length = 2)
    (e5 : chkEq ⟨Ne, [], gi⟩ scopee bodye = true) : EqFn W P w W.K mg base 2 := by
  refine ⟨⟨fe, fde, pse, me.at_, me.fn, e3, ?_⟩, ek.ne, ek.mro⟩
  have F := parts_fn (P := P) (w := w) (base := base) fa p2 p4 hp p5
  unfold chkEq at e5
  split at e5
  rotate_left 1
  · cases e5
  rename_i x p1 o1 y q2 q3 s1 f1 q4 q5 o2 f2 q6 q7 q8 q9 q10
  rw [Bool.and_eq_true, Bool.and_eq_true, Bool.and_eq_true, Bool.and_eq_true, Bool.and_eq_true, Bool.and_eq_true, Bool.and_eq_true, Bool.and_eq_true, Bool.and_eq_true, Bool.and_eq_true, decide_eq_true_eq, decide_eq_true_eq, decide_eq_true_eq, decide_eq_true_eq] at e5
  obtain ⟨rfl, rfl, rfl, rfl, c1, c2, l1, l2, c3, c4, c5⟩ := e5
  refine e2.ok (k := 1) e4 (fun vs H Q E h => ?_) fun cdv A outer st H vs Q E hr h =>
    ⟨tRet (tAndV (tCB (rIsi W.K) (tCons (tVar 1) (tCons (tC (.ref W.C)) tNil))) (tOp (rEqD W.K) (tMeth W.C "parts" (spPt W) [] E0 (tVar 0) tNil) (tMeth W.C "parts" (spPt W) [] E0 (tVar 1) tNil))), PSs.nox ?_, ?_⟩
  · obtain ⟨Z, G, a, b, n, ts, ns, n2, ts2, ns2, _, _, rfl, _⟩ := h
    rw [he]
    rfl
  · have cn := cn_of (P := P) (w := w) (base := base) (H := H) (E := E) (outer := []) (outer' := outer) fa e4 hr
    have hu : (cxOf CX0 P w W.K mg base Ne qe scopee fe cdv A outer st H E).nox.A.units + 64 < cLine := by
      have := hr.un
      show (A.deeper _).units + 64 < cLine
      omega
    obtain ⟨b1, b2, b3, b4⟩ := isi_plain
    have v0 := pe_self cn.c c4
    have v1 := pe_self cn.c c3
    have v2 := pe_self cn.c c5
    have pc : PE (cxOf CX0 P w W.K mg base Ne qe scopee fe cdv A outer st H E).nox (.Name "Crowd" q2) (tC (.ref W.C)) := pe_glob (v := .ref W.C) (gl_ok cn.c c2) hmg rfl (by decide)
    have m1 := meth0_var (apos := q4) (pos := q5) l1 c4 v0 fa.cls mp F hr p3 pass0
    have m2 := meth0_var (apos := q6) (pos := q7) l2 c5 v2 fa.cls mp F hr p3 pass0
    have pi := pe_callB (pos := q3) (p := p1) (call_isi (X := (cxOf CX0 P w W.K mg base Ne qe scopee fe cdv A outer st H E).nox)) (gl_ok cn.c c1) (cn.c.bl _ b2) b1 (pa_cons v1 (pa_cons pc pa_nil) (star_ok (star_var c3) _)) b3 b4 (star_ok (star_var c3) _) rfl
    exact pss_one (ps_ret (pe_and pi (pe_one (pe_cmpR (op_eqD hu) m1 m2 rfl))))
  · obtain ⟨Z, G, a, b, n, ts, ns, n2, ts2, ns2, g, zo, rfl, ra, rb, hq⟩ := h
    have z0 : (L2.start Ne [V.ref a, V.ref b])[0]? = some (some (.ref a)) := start_get rfl
    have z1 : (L2.start Ne [V.ref a, V.ref b])[1]? = some (some (.ref b)) := start_get rfl
    have ia : ∃ dx fs, H a = some (.ins W.C dx fs) ∧ fs.lookup ("parts" : Str) = none := by
      cases ra with
      | crowd h g l r1 r2 => exact ⟨_, _, h, crowdF_no _ _ _ _⟩
    have ib : ∀ {G' H'}, Ext G H G' H' → ∃ dx fs, H' b = some (.ins W.C dx fs) ∧ fs.lookup ("parts" : Str) = none := fun {G' H'} e => by
      cases rb with
      | crowd h g l r1 r2 => exact ⟨_, _, (e.ob _ _ h g).1, crowdF_no _ _ _ _⟩
    obtain ⟨dx, fs, ha, hla⟩ := ia
    obtain ⟨dy, fs2, hb, hlb⟩ := ib (Ext.refl G H)
    refine ⟨_, z1, .ref b, .ref W.C, .ref W.C, .ref W.C, true, rfl, .own W.C, .base (.ins hb fa.cls ek.cl ek.get ek.tk ek.mro), ek.kit, true, rfl, ?_⟩
    rw [if_pos rfl]
    refine ⟨_, z0, a, dx, fs, rfl, ha, hla, Z, G, n, ts, ns, g, zo, .cons ra .nil, fun G1 H1 v e1 g1 r1 => ?_⟩
    obtain ⟨dy1, fs3, hb1, hlb1⟩ := ib e1
    refine ⟨_, z1, b, dy1, fs3, rfl, hb1, hlb1, Z, G1, n2, ts2, ns2, g1, zo.ext e1, .cons (rb.ext e1) .nil, fun G2 H2 u e2 g2 r2 => ?_⟩
    refine ⟨_, _, (r1.ext e2).dp (trD_sh n ts ns), r2.dp (trD_sh n2 ts2 ns2), trD_sh n ts ns, trD_sh n2 ts2 ns2, ?_⟩
    rw [trD_eq]
    exact hq G2 H2 (e1.trans e2) g2
end
end Fm


/-! FpS: without, spared; the law's own of these; a search. -/
namespace Fm
open PySem PySem.Spec PyProof.Rows L2
section
variable {F : Fns} {env : Env}
@[simp] theorem ev_ceq (n : Bool) (a b : E) : ev F (.ceq n a b) env = (ev F a env >>= fun x => ev F b env >>= fun y => ceqD n x y) := (rfl)
@[simp] theorem isNil_ceq (n : Bool) (a b : E) : isNil (.ceq n a b) = false := (rfl)
theorem ceqD_same (n : Bool) (a : Nat) (b : List (Nat × Nat)) (c : List Nat) : ceqD n (.crowd a b c) (.crowd a b c) = .ret (.bl (!n)) := by
  unfold ceqD
  simp
theorem ceqD_cr (n : Bool) (c : Cr) : ceqD n (crD c) (crD c) = .ret (.bl (!n)) := ceqD_same n _ _ _
/-- a search that ends by telling what is found -/
theorem exec_find {α : Type} {tg : Tg} {it : E} {b : S} (f : α → D) (l : List α) (p : α → Bool) (I : Env → Prop) (g : α → D) (hi : (ev F it env >>= itsT) = .ret (l.map f)) (hw : mayWalk env it (dbl tg.is ++ b.touch) = true)
    (step : ∀ a ∈ l, ∀ e, I e → ∃ e1, bindTg tg (f a) e = .ret e1 ∧ ((p a = true ∧ ∃ e2, exec F b e1 = .ret (.rt (g a) e2)) ∨ (p a = false ∧ ∃ e2, exec F b e1 = .ret (.nx e2) ∧ I e2))) (h0 : I env) :
    (∃ a e, l.find? p = some a ∧ exec F (.for_ tg it b) env = .ret (.rt (g a) e)) ∨ (∃ e, l.find? p = none ∧ I e ∧ exec F (.for_ tg it b) env = .ret (.nx e)) := by
  obtain ⟨r, er, hr⟩ := exec_for_inv (F := F) (tg := tg) (it := it) (b := b) (env := env) f l
    (fun rest e => ∃ pre, l = pre ++ rest ∧ (∀ x ∈ pre, p x = false) ∧ I e)
    (fun r => (∃ a e, l.find? p = some a ∧ r = .rt (g a) e) ∨ (∃ e, l.find? p = none ∧ I e ∧ r = .nx e)) hi hw
    (fun a rest e _ hI => by
      obtain ⟨pre, hpre, hall, hI⟩ := hI
      obtain ⟨e1, h1, h2⟩ := step a (by rw [hpre]; simp) e hI
      rcases h2 with ⟨hp, e2, h2⟩ | ⟨hp, e2, h2, hI2⟩
      · refine ⟨e1, h1, _, h2, .inl ⟨a, e2, ?_, rfl⟩⟩
        rw [hpre, List.find?_append, List.find?_eq_none.mpr (fun x hx => by rw [hall x hx]; decide), List.find?_cons, hp]
        rfl
      · refine ⟨e1, h1, _, h2, pre ++ [a], by rw [hpre]; simp, fun x hx => ?_, hI2⟩
        rcases List.mem_append.mp hx with z | z
        · exact hall x z
        · rw [List.mem_singleton.mp z]; exact hp)
    (fun e hI => by
      obtain ⟨pre, hpre, hall, hI⟩ := hI
      rw [List.append_nil] at hpre
      subst hpre
      exact .inr ⟨e, List.find?_eq_none.mpr (fun x hx => by rw [hall x hx]; decide), hI, rfl⟩)
    ⟨[], rfl, by simp, h0⟩
  rcases hr with ⟨a, e, h1, rfl⟩ | ⟨e, h1, h2, rfl⟩
  · exact .inl ⟨a, e, h1, er⟩
  · exact .inr ⟨e, h1, h2, er⟩
end
/- refusing: 0 crowd, 1 lot, 2 needs, 3 person, 4 need, -/
def b_refusing : S :=
 (.cons (.set (.one 2) (.lc (.many [3, 4]) [3, 4] (.enum (.attr (.var 0) "needs")) .nil (.ite (.op .isin (.var 3) (.var 1)) (.gint "MOST_NEED" 9) (.var 4))))
 (.cons (.ret (.call "Crowd" (.cons (.attr (.var 0) "persons") (.cons (.attr (.var 0) "ties") (.cons (.blt .tuple (.cons (.var 2) .nil)) .nil)))))
 .nil))

/- without: 0 crowd, 1 lot, -/
def b_without : S :=
 (.cons (.expr (.call "check_lot" (.cons (.var 0) (.cons (.var 1) .nil))))
 (.cons (.ret (.call "refusing" (.cons (.var 0) (.cons (.var 1) .nil))))
 .nil))

/- is_spared: 0 crowd, 1 first, 2 kept, 3 person, -/
def b_is_spared : S :=
 (.cons (.ret (.nt (.blt .any (.cons (.lc (.one 3) [3] (.call "taken_in" (.cons (.var 0) (.cons (.var 1) .nil))) .nil (.op .isin (.var 3) (.var 2))) .nil))))
 .nil)

/- spared: 0 crowd, 1 first, 2 kept, 3 lot, 4 person, -/
def b_spared : S :=
 (.cons (.expr (.call "check_lot" (.cons (.var 0) (.cons (.var 1) .nil))))
 (.cons (.expr (.call "check_lot" (.cons (.var 0) (.cons (.var 2) .nil))))
 (.cons (.for_ (.one 3) (.call "all_lots" (.cons (.var 0) .nil))
 (.cons (.ite (.nt (.blt .any (.cons (.lc (.one 4) [4] (.var 3) .nil (.or (.op .isin (.var 4) (.var 1)) (.op .isin (.var 4) (.var 2)))) .nil)))
 (.cons (.ite (.call "is_spared" (.cons (.call "refusing" (.cons (.var 0) (.cons (.var 3) .nil))) (.cons (.var 1) (.cons (.var 2) .nil))))
 (.cons (.ret (.var 3))
 .nil)
 .nil)
 .nil)
 .nil)
 .nil))
 (.cons (.ret .non)
 .nil))))

/- _law_barred: 0 parts, 1 lot, 2 person, 3 need, -/
def b__law_barred : S :=
 (.cons (.ret (.tup (.cons (.ix (.var 0) (.int 0)) (.cons (.ix (.var 0) (.int 1)) (.cons (.blt .tuple (.cons (.lc (.many [2, 3]) [2, 3] (.enum (.ix (.var 0) (.int 2))) .nil (.ite (.op .isin (.var 2) (.var 1)) (.int 9) (.var 3))) .nil)) .nil)))))
 .nil)

/- _law_due: 0 parts, 1 first, 2 kept, 3 lot, 4 person, -/
def b__law_due : S :=
 (.cons (.for_ (.one 3) (.call "_law_lots" (.cons (.ix (.var 0) (.int 0)) .nil))
 (.cons (.ite (.nt (.blt .any (.cons (.lc (.one 4) [4] (.var 3) .nil (.or (.op .isin (.var 4) (.var 1)) (.op .isin (.var 4) (.var 2)))) .nil)))
 (.cons (.ite (.nt (.blt .any (.cons (.lc (.one 4) [4] (.call "_law_taken" (.cons (.call "_law_barred" (.cons (.var 0) (.cons (.var 3) .nil))) (.cons (.var 1) .nil))) .nil (.op .isin (.var 4) (.var 2))) .nil)))
 (.cons (.ret (.var 3))
 .nil)
 .nil)
 .nil)
 .nil)
 .nil))
 (.cons (.ret .non)
 .nil))

abbrev K_refusing (fs : List DefS) : Prop := HasB fs "refusing" 2 5 b_refusing ∧ K_crowd fs
abbrev K_without (fs : List DefS) : Prop := HasB fs "without" 2 2 b_without ∧ K_check_lot fs ∧ K_refusing fs
abbrev K_is_spared (fs : List DefS) : Prop := HasB fs "is_spared" 3 4 b_is_spared ∧ K_taken_in fs
abbrev K_spared (fs : List DefS) : Prop := HasB fs "spared" 3 5 b_spared ∧ K_check_lot fs ∧ K_all_lots fs ∧ K_is_spared fs ∧ K_refusing fs
abbrev K__law_barred (fs : List DefS) : Prop := HasB fs "_law_barred" 2 4 b__law_barred
abbrev K__law_due (fs : List DefS) : Prop := HasB fs "_law_due" 3 5 b__law_due ∧ K__law_lots fs ∧ K__law_taken fs ∧ K__law_barred fs
/-- the crowd in which a lot never takes it up -/
def barC (c : Cr) (l : List Nat) : Cr := ⟨c.n, c.ts, ((List.range c.ns.length).zip c.ns).map fun q => if q.1 ∈ l then 9 else q.2⟩
theorem barC_len (c : Cr) (l : List Nat) : (barC c l).ns.length = c.ns.length := by
  unfold barC
  simp
theorem barC_ok {c : Cr} (h : c.Ok) (l : List Nat) : (barC c l).Ok :=
  ⟨h.n1, h.n9, h.tie, h.srt, by rw [barC_len, h.nl]; rfl, fun x hx => by
    unfold barC at hx
    obtain ⟨q, hq, rfl⟩ := List.mem_map.mp hx
    have := h.k9 q.2 (List.of_mem_zip hq).2
    split <;> omega⟩
theorem need_barC {c : Cr} (h : c.Ok) (l : List Nat) {p : Nat} (hp : p < c.n) : need (barC c l) p = if p ∈ l then 9 else need c p := by
  unfold need barC
  have hl := h.nl
  have hz : ((List.range c.ns.length).zip c.ns)[p]? = some (p, c.ns[p]'(by omega)) := by
    rw [List.getElem?_eq_getElem (by simp; omega)]
    simp
  rw [List.getD_eq_getElem?_getD, List.getElem?_map, hz, List.getD_eq_getElem?_getD, List.getElem?_eq_getElem (by omega)]
  rfl
theorem tk_barC {c : Cr} (h : c.Ok) (l : List Nat) {f : List Nat} {p : Nat} (hp : p ∈ tk (barC c l) f) (hl : p ∈ l) : p ∈ f := by
  have hc : Clo (barC c l) f ((List.range c.n).filter (fun x => !decide (x ∈ l)) ++ f) := ⟨fun x hx => List.mem_append_right _ hx, fun x hx hn => by
    rw [need_barC h l hx] at hn
    by_cases hxl : x ∈ l
    · rw [if_pos hxl] at hn
      have := cnt_le8 (barC_ok h l) hx ((List.range c.n).filter (fun x => !decide (x ∈ l)) ++ f)
      omega
    · exact List.mem_append_left _ (List.mem_filter.mpr ⟨List.mem_range.mpr hx, by simp [hxl]⟩)⟩
  rcases List.mem_append.mp (tk_least hc p hp) with z | z
  · have := (List.mem_filter.mp z).2
    simp [hl] at this
  · exact z
noncomputable def spQ (c : Cr) (f k l : List Nat) : Bool := !(l.any fun p => decide (p ∈ f) || decide (p ∈ k)) && !((tk (barC c l) f).any fun p => decide (p ∈ k))
noncomputable def spare (c : Cr) (f k : List Nat) : Option (List Nat) := (allLots c.n).find? (spQ c f k)
section
variable {prim : Fns} {fs : List DefS} {n : Nat}
theorem p_refusing (P : PrimH prim) (K : K_refusing fs) (hn : 1 ≤ n) {c : Cr} (h : c.Ok) (l : List Nat) : callF prim fs n "refusing" [crD c, .tup (l.map natD)] = .ret (crD (barC c l)) := by
  rw [K.1.call (by omega) rfl [some (crD c), some (.tup (l.map natD)), none, none, none] rfl]
  unfold b_refusing
  have e1 : ev (callF prim fs (n - 1)) (.lc (.many [3, 4]) [3, 4] (.enum (.attr (.var 0) "needs")) .nil (.ite (.op .isin (.var 3) (.var 1)) (.gint "MOST_NEED" 9) (.var 4))) [some (crD c), some (.tup (l.map natD)), none, none, none] = .ret (.lst ((barC c l).ns.map natD)) := by
    have e2 := ev_lcM (F := callF prim fs (n - 1)) (env := [some (crD c), some (.tup (l.map natD)), none, none, none]) (tg := .many [3, 4]) (own := [3, 4]) (it := .enum (.attr (.var 0) "needs")) (test := .nil) (elt := .ite (.op .isin (.var 3) (.var 1)) (.gint "MOST_NEED" 9) (.var 4)) (fun q : Nat × Nat => D.tup [natD q.1, natD q.2]) ((List.range c.ns.length).zip c.ns) (fun q => natD (if q.1 ∈ l then 9 else q.2)) (by simp [enum_tup]) fun q hq => by
      by_cases h : q.1 ∈ l <;> simp [h]
    rw [e2]
    unfold barC
    rw [List.map_map]
    rfl
  have e5 := p_crowd (n := n - 1) P K.2 (barC_ok h l)
  simp [barC] at e5
  have h9 := h.n9
  have hl := h.nl
  simp [e1, e5, barC, E.fresh]
theorem p_without (P : PrimH prim) (K : K_without fs) (hn : 6 ≤ n) {c : Cr} (h : c.Ok) {l : List Nat} (hl : IsLot c.n l) : callF prim fs n "without" [crD c, .tup (l.map natD)] = .ret (crD (barC c l)) := by
  rw [K.1.call (by omega) rfl [some (crD c), some (.tup (l.map natD))] rfl]
  unfold b_without
  have e1 := p_check_lot (prim := prim) (n := n - 1) K.2.1 (by omega) hl
  have e2 := p_refusing (n := n - 1) P K.2.2 (by omega) h l
  simp [e1, e2]
theorem p_is_spared (P : PrimH prim) (K : K_is_spared fs) (hn : 5 ≤ n) {c : Cr} (h : c.Ok) {f : List Nat} (hf : IsLot c.n f) (k : List Nat) : callF prim fs n "is_spared" [crD c, .tup (f.map natD), .tup (k.map natD)] = .ret (.bl (!((tk c f).any fun p => decide (p ∈ k)))) := by
  rw [K.1.call (by omega) rfl [some (crD c), some (.tup (f.map natD)), some (.tup (k.map natD)), none] rfl]
  unfold b_is_spared
  have e3 := p_taken_in (n := n - 1) P K.2 (by omega) h hf.asc.nodup hf.lt
  have e1 : ev (callF prim fs (n - 1)) (.lc (.one 3) [3] (.call "taken_in" (.cons (.var 0) (.cons (.var 1) .nil))) .nil (.op .isin (.var 3) (.var 2))) [some (crD c), some (.tup (f.map natD)), some (.tup (k.map natD)), none] = .ret (.lst ((tk c f).map fun x => .bl (decide (x ∈ k)))) :=
    ev_lcM natD (tk c f) _ (by simp [e3]) fun x hx => by simp
  simp [e1]
theorem p_spared (P : PrimH prim) (K : K_spared fs) (hn : 6 ≤ n) {c : Cr} (h : c.Ok) {f k : List Nat} (hf : IsLot c.n f) (hk : IsLot c.n k) : callF prim fs n "spared" [crD c, .tup (f.map natD), .tup (k.map natD)] = .ret (optD lotD (spare c f k)) := by
  rw [K.1.call (by omega) rfl [some (crD c), some (.tup (f.map natD)), some (.tup (k.map natD)), none, none] rfl]
  unfold b_spared spare
  have e1 := p_check_lot (prim := prim) (n := n - 1) K.2.1 (by omega) hf
  have e2 := p_check_lot (prim := prim) (n := n - 1) K.2.1 (by omega) hk
  have e3 := p_all_lots (prim := prim) (n := n - 1) K.2.2.1 (by omega) h.n9
  have r := exec_find (F := callF prim fs (n - 1)) (tg := .one 3) (it := .call "all_lots" (.cons (.var 0) .nil)) (b := (.cons (.ite (.nt (.blt .any (.cons (.lc (.one 4) [4] (.var 3) .nil (.or (.op .isin (.var 4) (.var 1)) (.op .isin (.var 4) (.var 2)))) .nil)))
 (.cons (.ite (.call "is_spared" (.cons (.call "refusing" (.cons (.var 0) (.cons (.var 3) .nil))) (.cons (.var 1) (.cons (.var 2) .nil))))
 (.cons (.ret (.var 3)) .nil) .nil) .nil) .nil) .nil)) (env := [some (crD c), some (.tup (f.map natD)), some (.tup (k.map natD)), none, none]) lotD (allLots c.n) (spQ c f k) (fun e => ∃ x, e = [some (crD c), some (.tup (f.map natD)), some (.tup (k.map natD)), x, none]) lotD (by simp [e3]) rfl (fun l hl e hI => by
    obtain ⟨x, rfl⟩ := hI
    have hl' := mem_allLots.mp hl
    refine ⟨_, by simp; rfl, ?_⟩
    have e4 : ev (callF prim fs (n - 1)) (.lc (.one 4) [4] (.var 3) .nil (.or (.op .isin (.var 4) (.var 1)) (.op .isin (.var 4) (.var 2)))) [some (crD c), some (.tup (f.map natD)), some (.tup (k.map natD)), some (lotD l), none] = .ret (.lst (l.map fun p => .bl (decide (p ∈ f) || decide (p ∈ k)))) :=
      ev_lcM natD l _ (by simp) fun p hp => by
        by_cases h1 : p ∈ f <;> simp [h1]
    have e5 := p_refusing (n := n - 1) P K.2.2.2.2 (by omega) h l
    have e6 := p_is_spared (n := n - 1) P K.2.2.2.1 (by omega) (barC_ok h l) (f := f) hf k
    simp at e4
    unfold spQ
    cases ha : (l.any fun p => decide (p ∈ f) || decide (p ∈ k)) with
    | true => exact .inr ⟨rfl, _, by simp [e4, ha]; rfl, _, rfl⟩
    | false =>
      cases hb : ((tk (barC c l) f).any fun p => decide (p ∈ k)) with
      | true =>
        rw [hb] at e6
        exact .inr ⟨rfl, _, by simp [e4, ha, e5, e6]; rfl, _, rfl⟩
      | false =>
        rw [hb] at e6
        exact .inl ⟨rfl, _, by simp [e4, ha, e5, e6]; rfl⟩) ⟨none, rfl⟩
  rcases r with ⟨a, e, h1, h2⟩ | ⟨e, h1, _, h2⟩
  · simp [e1, e2, h1, h2]
  · simp [e1, e2, h1, h2]
theorem p__law_barred (K : K__law_barred fs) (hn : 1 ≤ n) {c : Cr} (hl : c.ns.length ≤ 1000) (l : List Nat) : callF prim fs n "_law_barred" [partsD c, .tup (l.map natD)] = .ret (partsD (barC c l)) := by
  rw [K.call (by omega) rfl [some (partsD c), some (.tup (l.map natD)), none, none] rfl]
  unfold b__law_barred
  have e1 : ev (callF prim fs (n - 1)) (.lc (.many [2, 3]) [2, 3] (.enum (.ix (.var 0) (.int 2))) .nil (.ite (.op .isin (.var 2) (.var 1)) (.int 9) (.var 3))) [some (partsD c), some (.tup (l.map natD)), none, none] = .ret (.lst ((barC c l).ns.map natD)) := by
    have e2 := ev_lcM (F := callF prim fs (n - 1)) (env := [some (partsD c), some (.tup (l.map natD)), none, none]) (tg := .many [2, 3]) (own := [2, 3]) (it := .enum (.ix (.var 0) (.int 2))) (test := .nil) (elt := .ite (.op .isin (.var 2) (.var 1)) (.int 9) (.var 3)) (fun q : Nat × Nat => D.tup [natD q.1, natD q.2]) ((List.range c.ns.length).zip c.ns) (fun q => natD (if q.1 ∈ l then 9 else q.2)) (by simp [enum_tup]) fun q hq => by
      by_cases h : q.1 ∈ l <;> simp [h]
    rw [e2]
    unfold barC
    rw [List.map_map]
    rfl
  have e9 : partsD (barC c l) = .tup [.int c.n, .tup (c.ts.map tieD), .tup ((barC c l).ns.map natD)] := rfl
  rw [e9]
  simp [e1, mkTup]
theorem p__law_due (K : K__law_due fs) (hn : 3 ≤ n) {c : Cr} (h : c.Ok) {f : List Nat} (hf : IsLot c.n f) (k : List Nat) : callF prim fs n "_law_due" [partsD c, .tup (f.map natD), .tup (k.map natD)] = .ret (optD lotD (spare c f k)) := by
  rw [K.1.call (by omega) rfl [some (partsD c), some (.tup (f.map natD)), some (.tup (k.map natD)), none, none] rfl]
  unfold b__law_due spare
  have h9 := h.n9
  have hnl := h.nl
  have e3 := p__law_lots (prim := prim) (n := n - 1) K.2.1 (by omega) (m := c.n) h9
  have r := exec_find (F := callF prim fs (n - 1)) (tg := .one 3) (it := .call "_law_lots" (.cons (.ix (.var 0) (.int 0)) .nil)) (b := (.cons (.ite (.nt (.blt .any (.cons (.lc (.one 4) [4] (.var 3) .nil (.or (.op .isin (.var 4) (.var 1)) (.op .isin (.var 4) (.var 2)))) .nil)))
 (.cons (.ite (.nt (.blt .any (.cons (.lc (.one 4) [4] (.call "_law_taken" (.cons (.call "_law_barred" (.cons (.var 0) (.cons (.var 3) .nil))) (.cons (.var 1) .nil))) .nil (.op .isin (.var 4) (.var 2))) .nil)))
 (.cons (.ret (.var 3)) .nil) .nil) .nil) .nil) .nil)) (env := [some (partsD c), some (.tup (f.map natD)), some (.tup (k.map natD)), none, none]) lotD (allLots c.n) (spQ c f k) (fun e => ∃ x, e = [some (partsD c), some (.tup (f.map natD)), some (.tup (k.map natD)), x, none]) lotD (by simp [e3]) rfl (fun l hl e hI => by
    obtain ⟨x, rfl⟩ := hI
    have hl' := mem_allLots.mp hl
    refine ⟨_, by simp; rfl, ?_⟩
    have e4 : ev (callF prim fs (n - 1)) (.lc (.one 4) [4] (.var 3) .nil (.or (.op .isin (.var 4) (.var 1)) (.op .isin (.var 4) (.var 2)))) [some (partsD c), some (.tup (f.map natD)), some (.tup (k.map natD)), some (lotD l), none] = .ret (.lst (l.map fun p => .bl (decide (p ∈ f) || decide (p ∈ k)))) :=
      ev_lcM natD l _ (by simp) fun p hp => by
        by_cases h1 : p ∈ f <;> simp [h1]
    have hbo := barC_ok h l
    have e5 := p__law_barred (prim := prim) (n := n - 1) (c := c) K.2.2.2 (by omega) (by omega) l
    have e6 := p__law_taken (prim := prim) (n := n - 1) (c := barC c l) K.2.2.1 (by omega) (by have := hbo.n9; omega) hbo.nl (f := f) hf.asc.nodup hf.lt
    have e7 : ev (callF prim fs (n - 1)) (.lc (.one 4) [4] (.call "_law_taken" (.cons (.call "_law_barred" (.cons (.var 0) (.cons (.var 3) .nil))) (.cons (.var 1) .nil))) .nil (.op .isin (.var 4) (.var 2))) [some (partsD c), some (.tup (f.map natD)), some (.tup (k.map natD)), some (lotD l), none] = .ret (.lst ((tk (barC c l) f).map fun p => .bl (decide (p ∈ k)))) :=
      ev_lcM natD (tk (barC c l) f) _ (by simp [e5, e6]) fun p hp => by simp
    simp at e4 e7
    unfold spQ
    cases ha : (l.any fun p => decide (p ∈ f) || decide (p ∈ k)) with
    | true => exact .inr ⟨rfl, _, by simp [e4, ha]; rfl, _, rfl⟩
    | false =>
      cases hb : ((tk (barC c l) f).any fun p => decide (p ∈ k)) with
      | true => exact .inr ⟨rfl, _, by simp [e4, ha, e7, hb]; rfl, _, rfl⟩
      | false => exact .inl ⟨rfl, _, by simp [e4, ha, e7, hb]; rfl⟩) ⟨none, rfl⟩
  rcases r with ⟨a, e, h1, h2⟩ | ⟨e, h1, _, h2⟩
  · simp [h1, h2]
  · simp [h1, h2]
end
end Fm


/-! K12p: the plain part of k12: covers and rings. -/
namespace Fm
open PySem PySem.Spec PyProof.Rows L2
/- full_needs: 0 crowd, 1 less, 2 row, -/
def b_full_needs : S :=
 (.cons (.ite (.nt (.call "is_within" (.cons (.var 1) (.cons (.int 0) (.cons (.gint "MOST_LESS" 3) .nil)))))
 (.cons .never
 .nil)
 .nil)
 (.cons (.ret (.call "Crowd" (.cons (.attr (.var 0) "persons") (.cons (.attr (.var 0) "ties") (.cons (.blt .tuple (.cons (.lc (.one 2) [2] (.call "besides" (.cons (.var 0) .nil)) .nil (.blt .max2 (.cons (.int 0) (.cons (.op .sub (.blt .len (.cons (.var 2) .nil)) (.var 1)) .nil)))) .nil)) .nil)))))
 .nil))

/- _law_is_ringless: 0 parts, 1 lot, 2 is_new, 3 besides_v, 4 here, 5 later, 6 person, 7 one, -/
def b__law_is_ringless : S :=
 (.cons (.par [3, 4] (.cons (.call "_law_besides" (.cons (.var 0) .nil)) (.cons (.lc (.one 6) [6] (.rng1 (.ix (.var 0) (.int 0))) (.op .notin (.var 6) (.var 1)) (.var 6)) .nil)))
 (.cons (.set (.one 2) (.bl true))
 (.cons (.while_ (.var 2)
 (.cons (.setl 5 (.lc (.one 6) [6] (.var 4) (.op .gt (.blt .len (.cons (.lc (.one 7) [7] (.ix (.var 3) (.var 6)) (.op .isin (.var 7) (.var 4)) (.var 7)) .nil)) (.int 1)) (.var 6)))
 (.cons (.par [2, 4] (.cons (.op .lt (.blt .len (.cons (.var 5) .nil)) (.blt .len (.cons (.var 4) .nil))) (.cons (.var 5) .nil)))
 .nil)))
 (.cons (.ret (.op .eq (.blt .len (.cons (.var 4) .nil)) (.int 0)))
 .nil))))

/- law: 0 script, 1 hand, 2 turn, 3 ring, 4 parts, 5 less, 6 again, 7 crowd, 8 besides_v, 9 told, 10 needs, 11 none, 12 one, 13 lot, 14 person, 15 a, 16 b, -/
def b_law : S :=
 (.cons (.set (.one 1) (.call "_law_hand" (.cons (.var 0) .nil)))
 (.cons (.for_ (.one 2) (.rng1 (.int 2))
 (.cons (.set (.one 4) (.call "_law_crowd" (.cons (.var 1) (.cons (.int 6) .nil))))
 (.cons (.par [7, 8] (.cons (.call "_law_made" (.cons (.var 4) .nil)) (.cons (.call "_law_besides" (.cons (.var 4) .nil)) .nil)))
 (.cons (.for_ (.one 5) (.rng1 (.int 4))
 (.cons (.set (.one 9) (.call "full_needs" (.cons (.var 7) (.cons (.var 5) .nil))))
 (.cons (.set (.one 10) (.blt .tuple (.cons (.lc (.one 14) [14] (.rng1 (.ix (.var 4) (.int 0))) .nil (.blt .max2 (.cons (.int 0) (.cons (.op .sub (.blt .len (.cons (.ix (.var 8) (.var 14)) .nil)) (.var 5)) .nil)))) .nil)))
 (.cons (.ite (.or (.ceq true (.var 9) (.call "Crowd" (.cons (.ix (.var 4) (.int 0)) (.cons (.ix (.var 4) (.int 1)) (.cons (.var 10) .nil))))) (.nt (.call "_law_is" (.cons (.attr (.var 9) "needs") (.cons (.var 10) .nil)))))
 (.cons (.ret (.bl false))
 .nil)
 .nil)
 .nil))))
 (.cons (.par [11, 12] (.cons (.call "full_needs" (.cons (.var 7) (.cons (.int 0) .nil))) (.cons (.call "full_needs" (.cons (.var 7) (.cons (.int 1) .nil))) .nil)))
 (.cons (.for_ (.one 6) (.rng1 (.int 8))
 (.cons (.set (.one 13) (.call "_law_drawn_lot" (.cons (.var 1) (.cons (.ix (.var 4) (.int 0)) .nil))))
 (.cons (.ite (.op .ne (.op .eq (.ix (.call "enough" (.cons (.var 11) (.cons (.var 13) .nil))) (.int 0)) (.str "all")) (.blt .all (.cons (.lc (.many [15, 16]) [15, 16] (.ix (.var 4) (.int 1)) .nil (.or (.op .isin (.var 15) (.var 13)) (.op .isin (.var 16) (.var 13)))) .nil)))
 (.cons (.ret (.bl false))
 .nil)
 .nil)
 (.cons (.ite (.op .ne (.op .eq (.ix (.call "enough" (.cons (.var 12) (.cons (.var 13) .nil))) (.int 0)) (.str "all")) (.call "_law_is_ringless" (.cons (.var 4) (.cons (.var 13) .nil))))
 (.cons (.ret (.bl false))
 .nil)
 .nil)
 .nil))))
 .nil))))))
 (.cons (.set (.one 3) (.call "Crowd" (.cons (.int 3) (.cons (.tup (.cons (.tup (.cons (.int 0) (.cons (.int 1) .nil))) (.cons (.tup (.cons (.int 0) (.cons (.int 2) .nil))) (.cons (.tup (.cons (.int 1) (.cons (.int 2) .nil))) .nil)))) (.cons (.tup (.cons (.int 0) (.cons (.int 0) (.cons (.int 0) .nil)))) .nil)))))
 (.cons (.ret (.and (.op .eq (.ix (.call "enough" (.cons (.call "full_needs" (.cons (.var 3) (.cons (.int 1) .nil))) (.cons (.tup .nil) .nil))) (.int 0)) (.str "kept")) (.op .eq (.ix (.call "enough" (.cons (.call "full_needs" (.cons (.var 3) (.cons (.int 1) .nil))) (.cons (.tup (.cons (.int 2) .nil)) .nil))) (.int 0)) (.str "all"))))
 .nil))))

abbrev K_full_needs (fs : List DefS) : Prop := HasB fs "full_needs" 2 3 b_full_needs ∧ K_is_within fs ∧ K_crowd fs ∧ K_besides fs
abbrev K__law_is_ringless (fs : List DefS) : Prop := HasB fs "_law_is_ringless" 2 8 b__law_is_ringless ∧ K__law_besides fs
abbrev K_law (fs : List DefS) : Prop := HasB fs "law" 1 17 b_law ∧ K_hand fs ∧ K__law_crowd fs ∧ K__law_made fs ∧ K__law_besides fs ∧ K_full_needs fs ∧ K__law_is fs ∧ K__law_drawn_lot fs ∧ K_enough fs ∧ K__law_is_ringless fs
/-! ### mathematics -/
def fullC (c : Cr) (k : Nat) : Cr := ⟨c.n, c.ts, (List.range c.n).map fun p => (nbs c p).length - k⟩
theorem nbs_len8 {c : Cr} (h : c.Ok) {p : Nat} (hp : p < c.n) : (nbs c p).length ≤ 8 := by
  have := cnt_le8 h hp (nbs c p)
  have e : (nbs c p).filter (fun b => decide (b ∈ nbs c p)) = nbs c p := List.filter_eq_self.mpr fun x hx => by simpa using hx
  unfold cnt at this
  rwa [e] at this
theorem fullC_ok {c : Cr} (h : c.Ok) (k : Nat) : (fullC c k).Ok :=
  ⟨h.n1, h.n9, h.tie, h.srt, by unfold fullC; simp, fun x hx => by
    unfold fullC at hx
    obtain ⟨p, hp, rfl⟩ := List.mem_map.mp hx
    have := nbs_len8 h (List.mem_range.mp hp)
    omega⟩
theorem need_fullC (c : Cr) (k : Nat) {p : Nat} (hp : p < c.n) : need (fullC c k) p = (nbs c p).length - k := by
  unfold need fullC
  rw [List.getD_eq_getElem?_getD, List.getElem?_map, List.getElem?_range hp]
  rfl
theorem cnt_fullC (c : Cr) (k : Nat) (S : List Nat) (p : Nat) : cnt (fullC c k) S p = cnt c S p := rfl
theorem filter_split (l : List Nat) (q : Nat → Bool) : (l.filter q).length + (l.filter fun x => !q x).length = l.length := by
  induction l with
  | nil => rfl
  | cons a l ih =>
    by_cases h : q a = true
    · simp [h]; omega
    · simp [h]; omega
theorem filter_le {p q : Nat → Bool} : ∀ {l : List Nat}, (∀ x ∈ l, p x = true → q x = true) → (l.filter p).length ≤ (l.filter q).length
  | [], _ => Nat.le_refl _
  | a :: l, h => by
    have ih := filter_le (l := l) fun x hx => h x (.tail _ hx)
    have ha := h a (.head _)
    by_cases h1 : p a = true
    · simp [h1, ha h1]; omega
    · by_cases h2 : q a = true
      · simp [h1, h2]; omega
      · simp [h1, h2]; omega
/-- those beside that have it, those that do not -/
theorem cnt_rest (c : Cr) (S : List Nat) (p : Nat) : cnt c S p + ((nbs c p).filter fun b => !decide (b ∈ S)).length = (nbs c p).length := filter_split _ _
theorem tie_nbs {c : Cr} (h : c.Ok) {a b : Nat} (ht : (a, b) ∈ c.ts) : b ∈ nbs c a ∧ a ∈ nbs c b ∧ a < c.n ∧ b < c.n := by
  have hh := h.tie (a, b) ht
  have e1 : min b a = a := by simp at hh; omega
  have e2 : max b a = b := by simp at hh; omega
  have e3 : min a b = a := by simp at hh; omega
  have e4 : max a b = b := by simp at hh; omega
  simp at hh
  exact ⟨mem_lotOf.mpr ⟨by omega, by unfold adj; rw [e3, e4]; exact decide_eq_true ht⟩, mem_lotOf.mpr ⟨by omega, by unfold adj; rw [e1, e2]; exact decide_eq_true ht⟩, by omega, by omega⟩
theorem nbs_tie {c : Cr} {a b : Nat} (hb : b ∈ nbs c a) : (min a b, max a b) ∈ c.ts := of_decide_eq_true (mem_lotOf.mp hb).2
theorem cover_iff {c : Cr} (h : c.Ok) {f : List Nat} (hf : IsLot c.n f) : (tk (fullC c 0) f).length = c.n ↔ ∀ t ∈ c.ts, t.1 ∈ f ∨ t.2 ∈ f := by
  have hl : IsLot c.n (tk (fullC c 0) f) := tk_lot (fullC c 0) f
  rw [len_all hl]
  constructor
  · intro hall t ht
    obtain ⟨a, b⟩ := t
    by_cases ha : a ∈ f
    · exact .inl ha
    by_cases hb : b ∈ f
    · exact .inr hb
    exfalso
    obtain ⟨n1, n2, la, lb⟩ := tie_nbs h ht
    have hc : Clo (fullC c 0) f ((List.range c.n).filter fun x => decide (x ≠ a ∧ x ≠ b)) := ⟨fun x hx => List.mem_filter.mpr ⟨List.mem_range.mpr (hf.lt x hx), decide_eq_true ⟨fun e => ha (e ▸ hx), fun e => hb (e ▸ hx)⟩⟩, fun p hp hn => by
      have hp' : p < c.n := hp
      rw [need_fullC c 0 hp', cnt_fullC] at hn
      have key : ∀ q, q ∈ nbs c p → (q = a ∨ q = b) → False := fun q hq e => by
        have hr := cnt_rest c ((List.range c.n).filter fun x => decide (x ≠ a ∧ x ≠ b)) p
        have hm : q ∈ (nbs c p).filter fun x => !decide (x ∈ (List.range c.n).filter fun x => decide (x ≠ a ∧ x ≠ b)) := List.mem_filter.mpr ⟨hq, by
          rcases e with e | e <;> simp [e]⟩
        have := List.length_pos_of_mem hm
        omega
      refine List.mem_filter.mpr ⟨List.mem_range.mpr hp', decide_eq_true ⟨fun e => ?_, fun e => ?_⟩⟩
      · subst e
        exact key b n1 (.inr rfl)
      · subst e
        exact key a n2 (.inl rfl)⟩
    have := tk_least hc a (hall a la)
    simp at this
  · intro hcov x hx
    have hc := tk_clo (c := fullC c 0) (f := f) hf.lt
    by_cases hxf : x ∈ f
    · exact hc.sub x hxf
    · refine hc.cl x hx ?_
      rw [need_fullC c 0 hx, cnt_fullC]
      have hr := cnt_rest c (tk (fullC c 0) f) x
      have he : ((nbs c x).filter fun b => !decide (b ∈ tk (fullC c 0) f)) = [] := List.filter_eq_nil_iff.mpr fun b hb => by
        have ht := nbs_tie hb
        have hbf : b ∈ f := by
          rcases hcov _ ht with z | z
          · rcases Nat.le_total b x with e | e
            · rwa [show (min x b, max x b).1 = b from Nat.min_eq_right e] at z
            · rw [show (min x b, max x b).1 = x from Nat.min_eq_left e] at z
              exact absurd z hxf
          · rcases Nat.le_total b x with e | e
            · rw [show (min x b, max x b).2 = x from Nat.max_eq_left e] at z
              exact absurd z hxf
            · rwa [show (min x b, max x b).2 = b from Nat.max_eq_right e] at z
        simp [hc.sub b hbf]
      rw [he] at hr
      simp at hr
      omega
/-- those with more than one tie of a lot -/
def peel (c : Cr) (here : List Nat) : List Nat := here.filter fun p => decide (1 < ((nbs c p).filter fun q => decide (q ∈ here)).length)
structure Peel (c : Cr) (f here : List Nat) : Prop where
  lot : IsLot c.n here
  out : ∀ p, p < c.n → p ∉ here → p ∈ tk (fullC c 1) f
  keep : ∀ p ∈ here, p ∉ f
theorem Peel.start {c : Cr} {f : List Nat} (hf : IsLot c.n f) : Peel c f (others c.n f) :=
  ⟨others_lot _ _, fun p hp hn => (tk_clo (c := fullC c 1) hf.lt).sub p (by
    by_cases h : p ∈ f
    · exact h
    · exact absurd (mem_others.mpr ⟨hp, h⟩) hn), fun p hp => (mem_others.mp hp).2⟩
theorem Peel.next {c : Cr} {f here : List Nat} (hf : IsLot c.n f) (h : Peel c f here) : Peel c f (peel c here) := by
  refine ⟨⟨h.lot.asc.filter _, fun x hx => h.lot.lt x (List.mem_filter.mp hx).1⟩, fun p hp hn => ?_, fun p hp => h.keep p (List.mem_filter.mp hp).1⟩
  by_cases hh : p ∈ here
  · have h1 : ¬ 1 < ((nbs c p).filter fun q => decide (q ∈ here)).length := fun z => hn (List.mem_filter.mpr ⟨hh, decide_eq_true z⟩)
    refine (tk_clo (c := fullC c 1) hf.lt).cl p hp ?_
    rw [need_fullC c 1 hp, cnt_fullC]
    have hr := cnt_rest c (tk (fullC c 1) f) p
    have hle : ((nbs c p).filter fun b => !decide (b ∈ tk (fullC c 1) f)).length ≤ ((nbs c p).filter fun q => decide (q ∈ here)).length := by
      refine filter_le fun q hq hn => ?_
      simp only [Bool.not_eq_true', decide_eq_false_iff_not] at hn
      refine decide_eq_true ?_
      by_cases z : q ∈ here
      · exact z
      · exact absurd (h.out q (mem_lotOf.mp hq).1 z) hn
    omega
  · exact h.out p hp hh
theorem Peel.fin {c : Cr} {f here : List Nat} (hf : IsLot c.n f) (h : Peel c f here) (he : peel c here = here) : (tk (fullC c 1) f).length = c.n ↔ here.length = 0 := by
  have hl : IsLot c.n (tk (fullC c 1) f) := tk_lot (fullC c 1) f
  rw [len_all hl, List.length_eq_zero_iff]
  constructor
  · intro hall
    cases hh : here with
    | nil => rfl
    | cons a r =>
      exfalso
      have ha : a ∈ here := by rw [hh]; exact .head _
      have hc : Clo (fullC c 1) f (others c.n here) := ⟨fun x hx => mem_others.mpr ⟨hf.lt x hx, fun z => h.keep x z hx⟩, fun p hp hn => by
        have hp' : p < c.n := hp
        refine mem_others.mpr ⟨hp', fun z => ?_⟩
        rw [need_fullC c 1 hp', cnt_fullC] at hn
        have h2 : 1 < ((nbs c p).filter fun q => decide (q ∈ here)).length := by
          rw [← he] at z
          exact of_decide_eq_true (List.mem_filter.mp z).2
        have hr := cnt_rest c (others c.n here) p
        have hle : ((nbs c p).filter fun q => decide (q ∈ here)).length ≤ ((nbs c p).filter fun b => !decide (b ∈ others c.n here)).length := filter_le fun q hq hn => by
          simp only [Bool.not_eq_true', decide_eq_false_iff_not]
          exact fun z => (mem_others.mp z).2 (of_decide_eq_true hn)
        omega⟩
      exact (mem_others.mp (tk_least hc a (hall a (h.lot.lt a ha)))).2 ha
  · intro hn x hx
    exact h.out x hx (by rw [hn]; simp)
/-! ### the program and the law -/
theorem max2_sub (a k : Nat) : bltin .max2 [.int 0, .int ((a : Int) - (k : Nat))] = .ret (natD (a - k)) := by
  show T.ret (D.int (if (a : Int) - (k : Nat) > 0 then (a : Int) - (k : Nat) else 0)) = T.ret (D.int _)
  congr 2
  split <;> omega
section
variable {prim : Fns} {fs : List DefS} {n : Nat}
theorem p_full_needs (P : PrimH prim) (K : K_full_needs fs) (hn : 3 ≤ n) {c : Cr} (h : c.Ok) {k : Nat} (hk : k ≤ 3) : callF prim fs n "full_needs" [crD c, .int k] = .ret (crD (fullC c k)) := by
  rw [K.1.call (by omega) rfl [some (crD c), some (.int k), none] rfl]
  unfold b_full_needs
  have e1 := p_is_within (prim := prim) (n := n - 1) K.2.1 (by omega) k 0 3
  have e2 := p_besides (n := n - 1) P K.2.2.2 h
  have e3 : ev (callF prim fs (n - 1)) (.lc (.one 2) [2] (.call "besides" (.cons (.var 0) .nil)) .nil (.blt .max2 (.cons (.int 0) (.cons (.op .sub (.blt .len (.cons (.var 2) .nil)) (.var 1)) .nil)))) [some (crD c), some (.int k), none] = .ret (.lst ((fullC c k).ns.map natD)) := by
    have e4 := ev_lcM (F := callF prim fs (n - 1)) (env := [some (crD c), some (.int k), none]) (tg := .one 2) (own := [2]) (it := .call "besides" (.cons (.var 0) .nil)) (test := .nil) (elt := .blt .max2 (.cons (.int 0) (.cons (.op .sub (.blt .len (.cons (.var 2) .nil)) (.var 1)) .nil))) (rowD c) (List.range c.n) (fun p => natD ((nbs c p).length - k)) (by simp [e2]) fun p hp => by
      have hm := max2_sub (nbs c p).length k
      simp [rowD, hm]
    rw [e4]
    unfold fullC
    rw [List.map_map]
    rfl
  have e5 := p_crowd (n := n - 1) P K.2.2.1 (fullC_ok h k)
  have e6 : crD (fullC c k) = .crowd c.n c.ts (fullC c k).ns := rfl
  have e7 : (fullC c k).n = c.n := rfl
  have e8 : (fullC c k).ts = c.ts := rfl
  rw [e7, e8] at e5
  have hk' : (k : Int) ≤ 3 := by omega
  simp [hk'] at e1
  simp [e1, e3, e5]
theorem p__law_is_ringless (K : K__law_is_ringless fs) (hn : 2 ≤ n) {c : Cr} (h : c.Ok) {f : List Nat} (hf : IsLot c.n f) : callF prim fs n "_law_is_ringless" [partsD c, .tup (f.map natD)] = .ret (.bl (decide ((tk (fullC c 1) f).length = c.n))) := by
  rw [K.1.call (by omega) rfl [some (partsD c), some (.tup (f.map natD)), none, none, none, none, none, none] rfl]
  unfold b__law_is_ringless
  have h9 := h.n9
  have e1 := p__law_besides (prim := prim) (n := n - 1) (c := c) K.2 (by omega) (by omega)
  have er := rng1_nat (n := c.n) (by omega)
  have e2 : ev (callF prim fs (n - 1)) (.lc (.one 6) [6] (.rng1 (.ix (.var 0) (.int 0))) (.op .notin (.var 6) (.var 1)) (.var 6)) [some (partsD c), some (.tup (f.map natD)), none, none, none, none, none, none] = .ret (.lst ((others c.n f).map natD)) :=
    ev_lcF natD (List.range c.n) (fun x => !decide (x ∈ f)) _ (by simp [er]) fun x hx => by simp
  obtain ⟨e, e3, here, hd, x, hp, hpe, hits, he⟩ := exec_while_nx (F := callF prim fs (n - 1)) (c := .var 2) (b := (.cons (.setl 5 (.lc (.one 6) [6] (.var 4) (.op .gt (.blt .len (.cons (.lc (.one 7) [7] (.ix (.var 3) (.var 6)) (.op .isin (.var 7) (.var 4)) (.var 7)) .nil)) (.int 1)) (.var 6)))
 (.cons (.par [2, 4] (.cons (.op .lt (.blt .len (.cons (.var 5) .nil)) (.blt .len (.cons (.var 4) .nil))) (.cons (.var 5) .nil))) .nil)))
    (fun m env => ∃ (fl : Bool) (here : List Nat) (hd : D) (x : Option D), Peel c f here ∧ (fl = false → peel c here = here) ∧ hd.its = some (here.map natD) ∧ env = [some (partsD c), some (.tup (f.map natD)), some (.bl fl), some (.lst ((List.range c.n).map (rowL c))), some hd, x, none, none] ∧ m = here.length + (if fl then 1 else 0))
    (fun env => ∃ (here : List Nat) (hd : D) (x : Option D), Peel c f here ∧ peel c here = here ∧ hd.its = some (here.map natD) ∧ env = [some (partsD c), some (.tup (f.map natD)), some (.bl false), some (.lst ((List.range c.n).map (rowL c))), some hd, x, none, none])
    (fun m env ⟨fl, here, hd, x, hp, hfl, hits, he, hm⟩ => by
      subst he
      cases fl with
      | false => exact .inl ⟨by simp, here, hd, x, hp, hfl rfl, hits, rfl⟩
      | true =>
        right
        have hlen : bltin .len [hd] = .ret (.int here.length) := by
          cases hd with
          | lst xs => cases hits; simp
          | cell xs => cases hits; simp
          | tup xs => cases hits; simp
          | _ => cases hits
        have e5 : ev (callF prim fs (n - 1)) (.lc (.one 6) [6] (.var 4) (.op .gt (.blt .len (.cons (.lc (.one 7) [7] (.ix (.var 3) (.var 6)) (.op .isin (.var 7) (.var 4)) (.var 7)) .nil)) (.int 1)) (.var 6)) [some (partsD c), some (.tup (f.map natD)), some (.bl true), some (.lst ((List.range c.n).map (rowL c))), some hd, x, none, none] = .ret (.lst ((peel c here).map natD)) := by
          refine ev_lcF natD here _ _ (by simp [itsT, hits]) fun p hpm => ?_
          have hpn := hp.lot.lt p hpm
          have i1 : ixD (.lst ((List.range c.n).map (rowL c))) (.int (p : Nat)) = .ret (rowL c p) := by
            rw [ix_get (xs := (List.range c.n).map (rowL c)) rfl (fun _ e => by cases e) (by simpa using hpn)]
            simp
          have e6 : ev (callF prim fs (n - 1)) (.lc (.one 7) [7] (.ix (.var 3) (.var 6)) (.op .isin (.var 7) (.var 4)) (.var 7)) [some (partsD c), some (.tup (f.map natD)), some (.bl true), some (.lst ((List.range c.n).map (rowL c))), some hd, x, some (.int p), none] = .ret (.lst (((nbs c p).filter fun q => decide (q ∈ here)).map natD)) := by
            refine ev_lcF natD (nbs c p) _ _ (by simp [i1, rowL]) fun q hq => ?_
            have o1 : op2 .isin (.int (q : Nat)) hd = .ret (.bl (decide (q ∈ here))) := by
              show (match hd.its with | some xs => (do let c ← inD (.int (q : Nat)) xs; T.ret (D.bl c)) | none => T.bad) = _
              rw [hits]
              show (inD (.int (q : Nat)) (here.map natD) >>= fun c => T.ret (D.bl c)) = _
              rw [inD_nat]
              rfl
            simp [o1]
          by_cases h1 : 1 < ((nbs c p).filter fun q => decide (q ∈ here)).length
          · have h1' : (1 : Int) < (((nbs c p).filter fun q => decide (q ∈ here)).length : Nat) := by omega
            simp [e6, h1, h1']
          · have h1' : ¬ (1 : Int) < (((nbs c p).filter fun q => decide (q ∈ here)).length : Nat) := by omega
            simp [e6, h1, h1']
        have hlen2 := List.length_filter_le (fun p => decide (1 < ((nbs c p).filter fun q => decide (q ∈ here)).length)) here
        have hpl : (peel c here).length ≤ here.length := hlen2
        refine ⟨by simp, [some (partsD c), some (.tup (f.map natD)), some (.bl (decide ((peel c here).length < here.length))), some (.lst ((List.range c.n).map (rowL c))), some (.lst ((peel c here).map natD)), some (.lst ((peel c here).map natD)), none, none], by simp [e5, hlen], ?_⟩
        by_cases hlt : (peel c here).length < here.length
        · refine ⟨(peel c here).length + 1, ?_, true, peel c here, _, _, hp.next hf, (fun z => by cases z), rfl, by rw [decide_eq_true hlt], rfl⟩
          subst hm
          simp
          omega
        · refine ⟨(peel c here).length, ?_, false, peel c here, _, _, hp.next hf, fun _ => ?_, rfl, by rw [decide_eq_false hlt], rfl⟩
          · subst hm
            simp
            omega
          · have he : peel c here = here := (List.filter_sublist (l := here)).eq_of_length (by
              show (peel c here).length = here.length
              omega)
            rw [he, he])
    ((others c.n f).length + 1) [some (partsD c), some (.tup (f.map natD)), some (.bl true), some (.lst ((List.range c.n).map (rowL c))), some (.cell ((others c.n f).map natD)), none, none, none] ⟨true, others c.n f, _, none, Peel.start hf, (fun z => by cases z), rfl, rfl, rfl⟩ (by
      have := (others_lot c.n f).len
      omega)
  subst he
  have hlen : bltin .len [hd] = .ret (.int here.length) := by
    cases hd with
    | lst xs => cases hits; simp
    | cell xs => cases hits; simp
    | tup xs => cases hits; simp
    | _ => cases hits
  have hfin := hp.fin hf hpe
  have e9 : decide ((tk (fullC c 1) f).length = c.n) = decide (here.length = 0) := decide_eq_decide.mpr hfin
  rw [e9]
  try simp at e2
  try simp at e3
  simp [E.fresh, e1, e2, e3, hlen, eqD_ints]
theorem eqD_blb (a b : Bool) : eqD (.bl a) (.bl b) = .ret (decide (a = b)) := by
  cases a <;> cases b <;> rfl
theorem enough_word (P : PrimH prim) (K : K_enough fs) (hn : 6 ≤ n) {c : Cr} (h : c.Ok) {f : List Nat} (hf : IsLot c.n f) : ∃ w x : D, callF prim fs n "enough" [crD c, .tup (f.map natD)] = .ret (.tup [w, x]) ∧ (D.tup [w, x]).flat = true ∧ eqD w (.str (Str.ofString "all")) = .ret (decide ((tk c f).length = c.n)) ∧ eqD w (.str (Str.ofString "kept")) = .ret (!decide ((tk c f).length = c.n)) := by
  have e := p_enough P K hn h hf
  by_cases hc : (tk c f).length = c.n
  · rw [if_pos hc] at e
    refine ⟨_, _, e, ?_, ?_, ?_⟩
    · simp [flat_tup']
      rfl
    · rw [decide_eq_true hc]
      exact str_aa
    · rw [decide_eq_true hc]
      exact str_ak
  · rw [if_neg hc] at e
    refine ⟨_, _, e, ?_, ?_, ?_⟩
    · simp [flat_tup']
      rfl
    · rw [decide_eq_false hc]
      exact str_ka
    · rw [decide_eq_false hc]
      exact str_kk
def ringC : Cr := ⟨3, [(0, 1), (0, 2), (1, 2)], [0, 0, 0]⟩
theorem pure (P : PrimH prim) (K : K_law fs) (hn : 9 ≤ n) (ns : List Int) : Wp (callF prim fs n "law" [.scr ns]) fun d => d = .bl true := by
  obtain ⟨k1, k2, k3, k4, k5, k6, k7, k8, k9, k10⟩ := K
  rw [k1.call (by omega) rfl [some (.scr ns), none, none, none, none, none, none, none, none, none, none, none, none, none, none, none, none] rfl]
  unfold b_law
  have e1 := p_hand (n := n - 1) P k2 ns
  have r2 : rng1D (.int 2) = .ret (.lst ((List.range 2).map natD)) := rng1_nat (n := 2) (by omega)
  have r4 : rng1D (.int 4) = .ret (.lst ((List.range 4).map natD)) := rng1_nat (n := 4) (by omega)
  have r8 : rng1D (.int 8) = .ret (.lst ((List.range 8).map natD)) := rng1_nat (n := 8) (by omega)
  simp [e1]
  refine fin_seq_wp (exec_for_wpn natD (List.range 2) (fun rest env => ∃ a b c d e f g h i j k : Option D, env = [some (.scr ns), some .hand, a, none, b, c, d, e, f, g, h, i, j, k, none, none, none]) (by simp [r2]) rfl (fun t rest env _ hI => ?_) ⟨_, _, _, _, _, _, _, _, _, _, _, rfl⟩ fun e hI => ?_)
  · obtain ⟨a, b, c0, d, e, f, g, h0, i0, j0, k0, rfl⟩ := hI
    refine ⟨_, by simp; rfl, fun Qs hQ => ?_⟩
    simp
    refine wp_bindI ?_
    refine p__law_crowd (most := 6) P k3 (by omega) (by omega) fun c hc hc6 => ?_
    have h9 := hc.n9
    have hnl := hc.nl
    have e2 := p__law_made (n := n - 1) P k4 (by omega) hc
    have e3 := p__law_besides (prim := prim) (n := n - 1) (c := c) k5 (by omega) (by omega)
    have er := rng1_nat (n := c.n) (by omega)
    simp [e2, e3, E.fresh]
    refine seq_wp (exec_for_wpn natD (List.range 4) (fun rest env => ∃ q g h : Option D, env = [some (.scr ns), some .hand, some (.int t), none, some (partsD c), q, d, some (crD c), some (.lst ((List.range c.n).map (rowL c))), g, h, i0, j0, k0, none, none, none]) (by simp [r4]) rfl (fun less rest2 env hq hI => ?_) ⟨_, _, _, rfl⟩ fun e hI => ?_)
    · obtain ⟨q, g, h, rfl⟩ := hI
      obtain ⟨pre, hpre⟩ := hq
      have hless := (range_split hpre).2
      refine ⟨_, by simp; rfl, fun Qs hQ => ?_⟩
      have f1 := p_full_needs (n := n - 1) P k6 (by omega) hc (k := less) (by omega)
      have f2 : ev (callF prim fs (n - 1)) (.lc (.one 14) [14] (.rng1 (.ix (.var 4) (.int 0))) .nil (.blt .max2 (.cons (.int 0) (.cons (.op .sub (.blt .len (.cons (.ix (.var 8) (.var 14)) .nil)) (.var 5)) .nil)))) [some (.scr ns), some .hand, some (.int t), none, some (partsD c), some (.int less), d, some (crD c), some (.lst ((List.range c.n).map (rowL c))), some (crD (fullC c less)), h, i0, j0, k0, none, none, none] = .ret (.lst ((fullC c less).ns.map natD)) := by
        have e4 := ev_lcM (F := callF prim fs (n - 1)) (env := [some (.scr ns), some .hand, some (.int t), none, some (partsD c), some (.int less), d, some (crD c), some (.lst ((List.range c.n).map (rowL c))), some (crD (fullC c less)), h, i0, j0, k0, none, none, none]) (tg := .one 14) (own := [14]) (it := .rng1 (.ix (.var 4) (.int 0))) (test := .nil) (elt := .blt .max2 (.cons (.int 0) (.cons (.op .sub (.blt .len (.cons (.ix (.var 8) (.var 14)) .nil)) (.var 5)) .nil))) natD (List.range c.n) (fun p => natD ((nbs c p).length - less)) (by simp [er]) fun p hp => by
          have hpn := List.mem_range.mp hp
          have i1 : ixD (.lst ((List.range c.n).map (rowL c))) (.int (p : Nat)) = .ret (rowL c p) := by
            rw [ix_get (xs := (List.range c.n).map (rowL c)) rfl (fun _ e => by cases e) (by simpa using hpn)]
            simp
          have hm := max2_sub (nbs c p).length less
          simp [i1, rowL, hm]
        rw [e4]
        unfold fullC
        rw [List.map_map]
        rfl
      have f3 := p_crowd (n := n - 1) P k4.2 (fullC_ok hc less)
      have e7 : (fullC c less).n = c.n := rfl
      have e8 : (fullC c less).ts = c.ts := rfl
      rw [e7, e8] at f3
      have f4 := p__law_is (prim := prim) (n := n - 1) (fun l : List Nat => D.tup (l.map natD)) k7 (by omega) (fullC c less).ns (fullC c less).ns
      have cq := ceqD_cr true (fullC c less)
      refine Wp.of_eq (a := .nx [some (.scr ns), some .hand, some (.int t), none, some (partsD c), some (.int less), d, some (crD c), some (.lst ((List.range c.n).map (rowL c))), some (crD (fullC c less)), some (.tup ((fullC c less).ns.map natD)), i0, j0, k0, none, none, none]) ?_ (hQ _ ⟨_, _, _, rfl⟩)
      simp at f2 f4
      simp [f1, f2, f3, f4, cq, E.fresh]
    · obtain ⟨q, g, h, rfl⟩ := hI
      have f1 := p_full_needs (n := n - 1) P k6 (by omega) hc (k := 0) (by omega)
      have f2 := p_full_needs (n := n - 1) P k6 (by omega) hc (k := 1) (by omega)
      simp at f1 f2
      simp [f1, f2, E.fresh]
      refine seq_wp (exec_for_wpn natD (List.range 8) (fun rest env => ∃ x y : Option D, env = [some (.scr ns), some .hand, some (.int t), none, some (partsD c), q, x, some (crD c), some (.lst ((List.range c.n).map (rowL c))), g, h, some (crD (fullC c 0)), some (crD (fullC c 1)), y, none, none, none]) (by simp [r8]) rfl (fun ag rest3 env _ hI => ?_) ⟨_, _, rfl⟩ fun e hI => ?_)
      · obtain ⟨x, y, rfl⟩ := hI
        refine ⟨_, by simp; rfl, fun Qs hQ => ?_⟩
        simp
        refine wp_bindI ?_
        refine p__law_drawn_lot P k8 (by omega) (by omega) fun lot hl => ?_
        obtain ⟨w0, x0, g0, gf0, ga0, _⟩ := enough_word (n := n - 1) P k9 (by omega) (fullC_ok hc 0) (f := lot) hl
        obtain ⟨w1, x1, g1, gf1, ga1, _⟩ := enough_word (n := n - 1) P k9 (by omega) (fullC_ok hc 1) (f := lot) hl
        have g2 := p__law_is_ringless (prim := prim) (n := n - 1) k10 (by omega) hc hl
        have g3 : ev (callF prim fs (n - 1)) (.lc (.many [15, 16]) [15, 16] (.ix (.var 4) (.int 1)) .nil (.or (.op .isin (.var 15) (.var 13)) (.op .isin (.var 16) (.var 13)))) [some (.scr ns), some .hand, some (.int t), none, some (partsD c), q, some (.int ag), some (crD c), some (.lst ((List.range c.n).map (rowL c))), g, h, some (crD (fullC c 0)), some (crD (fullC c 1)), some (.tup (lot.map natD)), none, none, none] = .ret (.lst (c.ts.map fun u => .bl (decide (u.1 ∈ lot) || decide (u.2 ∈ lot)))) := by
          refine ev_lcM tieD c.ts _ (by simp) fun u hu => ?_
          obtain ⟨a, b⟩ := u
          by_cases h1 : a ∈ lot <;> simp [h1]
        have cov : decide ((tk (fullC c 0) lot).length = (fullC c 0).n) = c.ts.all fun u => decide (u.1 ∈ lot) || decide (u.2 ∈ lot) := by
          rw [Bool.eq_iff_iff, decide_eq_true_eq, show (fullC c 0).n = c.n from rfl, cover_iff hc hl, List.all_eq_true]
          exact forall_congr' fun u => forall_congr' fun _ => by simp
        rw [cov] at ga0
        have en : (fullC c 1).n = c.n := rfl
        rw [en] at ga1
        refine Wp.of_eq (a := .nx [some (.scr ns), some .hand, some (.int t), none, some (partsD c), q, some (.int ag), some (crD c), some (.lst ((List.range c.n).map (rowL c))), g, h, some (crD (fullC c 0)), some (crD (fullC c 1)), some (.tup (lot.map natD)), none, none, none]) ?_ (hQ _ ⟨_, _, rfl⟩)
        have t0 := resT_flt gf0 rfl false
        have t1 := resT_flt gf1 rfl false
        try simp at g3
        simp [g0, g1, t0, t1, ga0, ga1, g2, g3, eqD_blb]
      · obtain ⟨x, y, rfl⟩ := hI
        simp
        exact hQ _ ⟨_, _, _, _, _, _, _, _, _, _, _, rfl⟩
  · obtain ⟨a, b, c, d, e, f, g, h, i, j, k, rfl⟩ := hI
    have c1 : ringC.Ok := crB_ok (by decide)
    have c2 := p_crowd (n := n - 1) P k4.2 c1
    have c3 := p_full_needs (n := n - 1) P k6 (by omega) c1 (k := 1) (by omega)
    have o1 := fullC_ok c1 1
    have l0 : IsLot 3 [] := isLot_nil 3
    have l2 : IsLot 3 [2] := lotB_ok (l := [2]) (by decide)
    obtain ⟨w0, x0, g0, gf0, _, ga0⟩ := enough_word (n := n - 1) P k9 (by omega) o1 (f := []) l0
    obtain ⟨w1, x1, g1, gf1, ga1, _⟩ := enough_word (n := n - 1) P k9 (by omega) o1 (f := [2]) l2
    have v0 : decide ((tk (fullC ringC 1) []).length = (fullC ringC 1).n) = false := by
      rw [tk_C (by decide) (by decide)]
      decide +kernel
    have v1 : decide ((tk (fullC ringC 1) [2]).length = (fullC ringC 1).n) = true := by
      rw [tk_C (by decide) (by decide)]
      decide +kernel
    rw [v0] at ga0
    rw [v1] at ga1
    have t0 := resT_flt gf0 rfl false
    have t1 := resT_flt gf1 rfl false
    simp [ringC] at c2 c3 g0 g1
    simp [mkTup, c2, c3, g0, g1, t0, t1, ga0, ga1]
end
end Fm


namespace Fm
open PySem PySem.Spec PyProof.Rows L2
def top (i : Nat) : Stmt := PySem.Challenge.pw_fortsmet_k12_whole_full_needs_and_covers.main.body.getD i (.Pass ⟨0, 0, 0, 0⟩)
def d_law : DefS := ⟨"law", ["script"], ["script", "hand", "turn", "ring", "parts", "less", "again", "crowd", "besides_v", "told", "needs", "none", "one", "lot", "person", "a", "b"],
 (.cons (.set (.one 1) (.call "_law_hand" (.cons (.var 0) .nil)))
 (.cons (.for_ (.one 2) (.rng1 (.int 2))
 (.cons (.set (.one 4) (.call "_law_crowd" (.cons (.var 1) (.cons (.int 6) .nil))))
 (.cons (.par [7, 8] (.cons (.call "_law_made" (.cons (.var 4) .nil)) (.cons (.call "_law_besides" (.cons (.var 4) .nil)) .nil)))
 (.cons (.for_ (.one 5) (.rng1 (.int 4))
 (.cons (.set (.one 9) (.call "full_needs" (.cons (.var 7) (.cons (.var 5) .nil))))
 (.cons (.set (.one 10) (.blt .tuple (.cons (.lc (.one 14) [14] (.rng1 (.ix (.var 4) (.int 0))) .nil (.blt .max2 (.cons (.int 0) (.cons (.op .sub (.blt .len (.cons (.ix (.var 8) (.var 14)) .nil)) (.var 5)) .nil)))) .nil)))
 (.cons (.ite (.or (.ceq true (.var 9) (.call "Crowd" (.cons (.ix (.var 4) (.int 0)) (.cons (.ix (.var 4) (.int 1)) (.cons (.var 10) .nil))))) (.nt (.call "_law_is" (.cons (.attr (.var 9) "needs") (.cons (.var 10) .nil)))))
 (.cons (.ret (.bl false))
 .nil)
 .nil)
 .nil))))
 (.cons (.par [11, 12] (.cons (.call "full_needs" (.cons (.var 7) (.cons (.int 0) .nil))) (.cons (.call "full_needs" (.cons (.var 7) (.cons (.int 1) .nil))) .nil)))
 (.cons (.for_ (.one 6) (.rng1 (.int 8))
 (.cons (.set (.one 13) (.call "_law_drawn_lot" (.cons (.var 1) (.cons (.ix (.var 4) (.int 0)) .nil))))
 (.cons (.ite (.op .ne (.op .eq (.ix (.call "enough" (.cons (.var 11) (.cons (.var 13) .nil))) (.int 0)) (.str "all")) (.blt .all (.cons (.lc (.many [15, 16]) [15, 16] (.ix (.var 4) (.int 1)) .nil (.or (.op .isin (.var 15) (.var 13)) (.op .isin (.var 16) (.var 13)))) .nil)))
 (.cons (.ret (.bl false))
 .nil)
 .nil)
 (.cons (.ite (.op .ne (.op .eq (.ix (.call "enough" (.cons (.var 12) (.cons (.var 13) .nil))) (.int 0)) (.str "all")) (.call "_law_is_ringless" (.cons (.var 4) (.cons (.var 13) .nil))))
 (.cons (.ret (.bl false))
 .nil)
 .nil)
 .nil))))
 .nil))))))
 (.cons (.set (.one 3) (.call "Crowd" (.cons (.int 3) (.cons (.tup (.cons (.tup (.cons (.int 0) (.cons (.int 1) .nil))) (.cons (.tup (.cons (.int 0) (.cons (.int 2) .nil))) (.cons (.tup (.cons (.int 1) (.cons (.int 2) .nil))) .nil)))) (.cons (.tup (.cons (.int 0) (.cons (.int 0) (.cons (.int 0) .nil)))) .nil)))))
 (.cons (.ret (.and (.op .eq (.ix (.call "enough" (.cons (.call "full_needs" (.cons (.var 3) (.cons (.int 1) .nil))) (.cons (.tup .nil) .nil))) (.int 0)) (.str "kept")) (.op .eq (.ix (.call "enough" (.cons (.call "full_needs" (.cons (.var 3) (.cons (.int 1) .nil))) (.cons (.tup (.cons (.int 2) .nil)) .nil))) (.int 0)) (.str "all"))))
 .nil))))⟩
def d_full_needs : DefS := ⟨"full_needs", ["crowd", "less"], ["crowd", "less", "row"],
 (.cons (.ite (.nt (.call "is_within" (.cons (.var 1) (.cons (.int 0) (.cons (.gint "MOST_LESS" 3) .nil)))))
 (.cons .never
 .nil)
 .nil)
 (.cons (.ret (.call "Crowd" (.cons (.attr (.var 0) "persons") (.cons (.attr (.var 0) "ties") (.cons (.blt .tuple (.cons (.lc (.one 2) [2] (.call "besides" (.cons (.var 0) .nil)) .nil (.blt .max2 (.cons (.int 0) (.cons (.op .sub (.blt .len (.cons (.var 2) .nil)) (.var 1)) .nil)))) .nil)) .nil)))))
 .nil))⟩
def d_is_within : DefS := ⟨"is_within", ["thing", "low", "high"], ["thing", "low", "high"],
 (.cons (.ret (.and (.call "is_integer" (.cons (.var 0) .nil)) (.chain .le .le (.var 1) (.var 0) (.var 2))))
 .nil)⟩
def d_is_integer : DefS := ⟨"is_integer", ["thing"], ["thing"],
 (.cons (.ret (.and (.isi (.var 0) .int) (.nt (.isi (.var 0) .bool))))
 .nil)⟩
def d_enough : DefS := ⟨"enough", ["crowd", "first"], ["crowd", "first"],
 (.cons (.expr (.call "check_lot" (.cons (.var 0) (.cons (.var 1) .nil))))
 (.cons (.ite (.call "is_all" (.cons (.var 0) (.cons (.var 1) .nil)))
 (.cons (.ret (.tup (.cons (.str "all") (.cons (.call "order_in" (.cons (.var 0) (.cons (.var 1) .nil))) .nil))))
 .nil)
 .nil)
 (.cons (.ret (.tup (.cons (.str "kept") (.cons (.call "others_of" (.cons (.var 0) (.cons (.call "taken_in" (.cons (.var 0) (.cons (.var 1) .nil))) .nil))) .nil))))
 .nil)))⟩
def d_taken_in : DefS := ⟨"taken_in", ["crowd", "first"], ["crowd", "first"],
 (.cons (.ret (.blt .tuple (.cons (.blt .sorted (.cons (.op .add (.var 1) (.call "order_in" (.cons (.var 0) (.cons (.var 1) .nil)))) .nil)) .nil)))
 .nil)⟩
def d_order_in : DefS := ⟨"order_in", ["crowd", "first"], ["crowd", "first", "more", "has", "found"],
 (.cons (.par [3, 4] (.cons (.blt .list (.cons (.var 1) .nil)) (.cons (.lst .nil) .nil)))
 (.cons (.set (.one 2) (.call "can_in" (.cons (.var 0) (.cons (.var 3) .nil))))
 (.cons (.while_ (.op .gt (.blt .len (.cons (.var 2) .nil)) (.int 0))
 (.cons (.app 4 (.ix (.var 2) (.int 0)))
 (.cons (.app 3 (.ix (.var 2) (.int 0)))
 (.cons (.set (.one 2) (.call "can_in" (.cons (.var 0) (.cons (.var 3) .nil))))
 .nil))))
 (.cons (.ret (.blt .tuple (.cons (.var 4) .nil)))
 .nil))))⟩
def d_can_in : DefS := ⟨"can_in", ["crowd", "lot"], ["crowd", "lot", "one"],
 (.cons (.ret (.blt .tuple (.cons (.lc (.one 2) [2] (.rng1 (.attr (.var 0) "persons")) (.and (.op .notin (.var 2) (.var 1)) (.call "can_take" (.cons (.var 0) (.cons (.var 1) (.cons (.var 2) .nil))))) (.var 2)) .nil)))
 .nil)⟩
def d_can_take : DefS := ⟨"can_take", ["crowd", "lot", "person"], ["crowd", "lot", "person", "one"],
 (.cons (.ret (.op .ge (.blt .len (.cons (.lc (.one 3) [3] (.ix (.call "besides" (.cons (.var 0) .nil)) (.var 2)) (.op .isin (.var 3) (.var 1)) (.var 3)) .nil)) (.ix (.attr (.var 0) "needs") (.var 2))))
 .nil)⟩
def d_others_of : DefS := ⟨"others_of", ["crowd", "lot"], ["crowd", "lot", "person"],
 (.cons (.ret (.blt .tuple (.cons (.lc (.one 2) [2] (.rng1 (.attr (.var 0) "persons")) (.op .notin (.var 2) (.var 1)) (.var 2)) .nil)))
 .nil)⟩
def d_is_all : DefS := ⟨"is_all", ["crowd", "first"], ["crowd", "first"],
 (.cons (.ret (.op .eq (.blt .len (.cons (.call "taken_in" (.cons (.var 0) (.cons (.var 1) .nil))) .nil)) (.attr (.var 0) "persons")))
 .nil)⟩
def d_check_lot : DefS := ⟨"check_lot", ["crowd", "lot"], ["crowd", "lot"],
 (.cons (.ite (.nt (.call "is_lot_of" (.cons (.var 0) (.cons (.var 1) .nil))))
 (.cons .never
 .nil)
 .nil)
 .nil)⟩
def d_is_lot_of : DefS := ⟨"is_lot_of", ["crowd", "thing"], ["crowd", "thing"],
 (.cons (.ret (.call "is_lot" (.cons (.var 1) (.cons (.attr (.var 0) "persons") .nil))))
 .nil)⟩
def d_is_lot : DefS := ⟨"is_lot", ["thing", "many"], ["thing", "many", "one", "other"],
 (.cons (.ite (.or (.nt (.isi (.var 0) .tuple)) (.nt (.blt .all (.cons (.lc (.one 2) [2] (.var 0) .nil (.call "is_within" (.cons (.var 2) (.cons (.int 0) (.cons (.op .sub (.var 1) (.int 1)) .nil))))) .nil))))
 (.cons (.ret (.bl false))
 .nil)
 .nil)
 (.cons (.ret (.blt .all (.cons (.lc (.many [2, 3]) [2, 3] (.zip (.var 0) (.sl (.var 0) (.int 1) .nil)) .nil (.op .lt (.var 2) (.var 3))) .nil)))
 .nil))⟩
def d__law_made : DefS := ⟨"_law_made", ["parts"], ["parts"],
 (.cons (.ret (.call "Crowd" (.cons (.ix (.var 0) (.int 0)) (.cons (.ix (.var 0) (.int 1)) (.cons (.ix (.var 0) (.int 2)) .nil)))))
 .nil)⟩
def d__law_is_ringless : DefS := ⟨"_law_is_ringless", ["parts", "lot"], ["parts", "lot", "is_new", "besides_v", "here", "later", "person", "one"],
 (.cons (.par [3, 4] (.cons (.call "_law_besides" (.cons (.var 0) .nil)) (.cons (.lc (.one 6) [6] (.rng1 (.ix (.var 0) (.int 0))) (.op .notin (.var 6) (.var 1)) (.var 6)) .nil)))
 (.cons (.set (.one 2) (.bl true))
 (.cons (.while_ (.var 2)
 (.cons (.setl 5 (.lc (.one 6) [6] (.var 4) (.op .gt (.blt .len (.cons (.lc (.one 7) [7] (.ix (.var 3) (.var 6)) (.op .isin (.var 7) (.var 4)) (.var 7)) .nil)) (.int 1)) (.var 6)))
 (.cons (.par [2, 4] (.cons (.op .lt (.blt .len (.cons (.var 5) .nil)) (.blt .len (.cons (.var 4) .nil))) (.cons (.var 5) .nil)))
 .nil)))
 (.cons (.ret (.op .eq (.blt .len (.cons (.var 4) .nil)) (.int 0)))
 .nil))))⟩
def d__law_besides : DefS := ⟨"_law_besides", ["parts"], ["parts", "found", "person", "one"],
 (.cons (.set (.one 1) (.lst .nil))
 (.cons (.for_ (.one 2) (.rng1 (.ix (.var 0) (.int 0)))
 (.cons (.app 1 (.lc (.one 3) [3] (.rng1 (.ix (.var 0) (.int 0))) (.op .isin (.tup (.cons (.blt .min2 (.cons (.var 3) (.cons (.var 2) .nil))) (.cons (.blt .max2 (.cons (.var 3) (.cons (.var 2) .nil))) .nil))) (.ix (.var 0) (.int 1))) (.var 3)))
 .nil))
 (.cons (.ret (.var 1))
 .nil)))⟩
def d__law_is : DefS := ⟨"_law_is", ["one", "other"], ["one", "other", "key", "mine", "yours"],
 (.cons (.ite (.or (.isi (.var 0) .bool) (.isi (.var 1) .bool))
 (.cons (.ret (.and (.isi (.var 0) .bool) (.and (.isi (.var 1) .bool) (.op .eq (.var 0) (.var 1)))))
 .nil)
 .nil)
 (.cons (.ite (.or (.isi (.var 0) .tuple) (.isi (.var 0) .list))
 (.cons (.ite (.or (.op .ne (.isi (.var 0) .tuple) (.isi (.var 1) .tuple)) (.op .ne (.isi (.var 0) .list) (.isi (.var 1) .list)))
 (.cons (.ret (.bl false))
 .nil)
 .nil)
 (.cons (.ret (.and (.op .eq (.blt .len (.cons (.var 0) .nil)) (.blt .len (.cons (.var 1) .nil))) (.blt .all (.cons (.lc (.many [3, 4]) [3, 4] (.zip (.var 0) (.var 1)) .nil (.call "_law_is" (.cons (.var 3) (.cons (.var 4) .nil)))) .nil))))
 .nil))
 .nil)
 (.cons (.ite (.isi (.var 0) .dict)
 (.cons (.ite (.or (.nt (.isi (.var 1) .dict)) (.op .ne (.blt .len (.cons (.var 0) .nil)) (.blt .len (.cons (.var 1) .nil))))
 (.cons (.ret (.bl false))
 .nil)
 .nil)
 (.cons (.ret (.blt .all (.cons (.lc (.one 2) [2] (.var 0) .nil (.and (.op .isin (.var 2) (.var 1)) (.call "_law_is" (.cons (.ix (.var 0) (.var 2)) (.cons (.ix (.var 1) (.var 2)) .nil))))) .nil)))
 .nil))
 .nil)
 (.cons (.ret (.and (.op .eq (.isi (.var 0) .int) (.isi (.var 1) .int)) (.op .eq (.var 0) (.var 1))))
 .nil))))⟩
def d__law_drawn_lot : DefS := ⟨"_law_drawn_lot", ["hand", "persons"], ["hand", "persons", "often", "person"],
 (.cons (.set (.one 2) (.op .add (.int 2) (.call "_law_draw" (.cons (.var 0) (.cons (.int 3) .nil)))))
 (.cons (.ret (.blt .tuple (.cons (.lc (.one 3) [3] (.rng1 (.var 1)) (.op .eq (.call "_law_draw" (.cons (.var 0) (.cons (.var 2) .nil))) (.int 0)) (.var 3)) .nil)))
 .nil))⟩
def d__law_crowd : DefS := ⟨"_law_crowd", ["hand", "most"], ["hand", "most", "often", "b", "ties", "person", "persons", "needs", "many", "some", "a", "tie"],
 (.cons (.par [6, 4, 7] (.cons (.op .add (.int 1) (.call "_law_draw" (.cons (.var 0) (.cons (.var 1) .nil)))) (.cons (.lst .nil) (.cons (.lst .nil) .nil))))
 (.cons (.set (.one 2) (.op .add (.int 1) (.call "_law_draw" (.cons (.var 0) (.cons (.int 3) .nil)))))
 (.cons (.for_ (.one 3) (.rng1 (.var 6))
 (.cons (.ext 4 (.lc (.one 10) [10] (.rng1 (.var 3)) (.op .lt (.call "_law_draw" (.cons (.var 0) (.cons (.int 4) .nil))) (.var 2)) (.tup (.cons (.var 10) (.cons (.var 3) .nil)))))
 .nil))
 (.cons (.set (.one 4) (.blt .tuple (.cons (.blt .sorted (.cons (.var 4) .nil)) .nil)))
 (.cons (.for_ (.one 5) (.rng1 (.var 6))
 (.cons (.set (.one 8) (.blt .len (.cons (.lc (.one 11) [11] (.var 4) (.op .isin (.var 5) (.var 11)) (.var 11)) .nil)))
 (.cons (.set (.one 9) (.lst (.cons (.int 1) (.cons (.int 1) (.cons (.int 2) (.cons (.call "_law_draw" (.cons (.var 0) (.cons (.op .add (.var 8) (.int 2)) .nil))) (.cons (.blt .min2 (.cons (.var 8) (.cons (.int 2) .nil))) (.cons (.var 8) (.cons (.blt .int (.cons (.op .gt (.call "_law_draw" (.cons (.var 0) (.cons (.int 3) .nil))) (.int 0)) .nil)) .nil)))))))))
 (.cons (.app 7 (.call "_law_some" (.cons (.var 0) (.cons (.var 9) .nil))))
 .nil))))
 (.cons (.ret (.tup (.cons (.var 6) (.cons (.var 4) (.cons (.blt .tuple (.cons (.var 7) .nil)) .nil)))))
 .nil))))))⟩
def d__law_some : DefS := ⟨"_law_some", ["hand", "things"], ["hand", "things"],
 (.cons (.ret (.ix (.var 1) (.call "_law_draw" (.cons (.var 0) (.cons (.blt .len (.cons (.var 1) .nil)) .nil)))))
 .nil)⟩
def d_is_tuple : DefS := ⟨"is_tuple", ["thing", "least", "most"], ["thing", "least", "most"],
 (.cons (.ret (.and (.isi (.var 0) .tuple) (.chain .le .le (.var 1) (.blt .len (.cons (.var 0) .nil)) (.var 2))))
 .nil)⟩
def d_is_tie : DefS := ⟨"is_tie", ["persons", "thing"], ["persons", "thing", "person"],
 (.cons (.ite (.or (.nt (.call "is_tuple" (.cons (.var 1) (.cons (.int 2) (.cons (.int 2) .nil))))) (.nt (.blt .all (.cons (.lc (.one 2) [2] (.var 1) .nil (.call "is_within" (.cons (.var 2) (.cons (.int 0) (.cons (.op .sub (.var 0) (.int 1)) .nil))))) .nil))))
 (.cons (.ret (.bl false))
 .nil)
 .nil)
 (.cons (.ret (.op .lt (.ix (.var 1) (.int 0)) (.ix (.var 1) (.int 1))))
 .nil))⟩
def d_are_ties : DefS := ⟨"are_ties", ["persons", "thing"], ["persons", "thing", "one", "other", "tie"],
 (.cons (.ite (.or (.nt (.isi (.var 1) .tuple)) (.nt (.blt .all (.cons (.lc (.one 4) [4] (.var 1) .nil (.call "is_tie" (.cons (.var 0) (.cons (.var 4) .nil)))) .nil))))
 (.cons (.ret (.bl false))
 .nil)
 .nil)
 (.cons (.ret (.blt .all (.cons (.lc (.many [2, 3]) [2, 3] (.zip (.var 1) (.sl (.var 1) (.int 1) .nil)) .nil (.op .lt (.var 2) (.var 3))) .nil)))
 .nil))⟩
def d_are_needs : DefS := ⟨"are_needs", ["persons", "thing"], ["persons", "thing", "need"],
 (.cons (.ret (.and (.call "is_tuple" (.cons (.var 1) (.cons (.var 0) (.cons (.var 0) .nil)))) (.blt .all (.cons (.lc (.one 2) [2] (.var 1) .nil (.call "is_within" (.cons (.var 2) (.cons (.int 0) (.cons (.gint "MOST_NEED" 9) .nil))))) .nil))))
 .nil)⟩
def d__law_hand : DefS := ⟨"_law_hand", ["script"], ["script", "cells", "cell"],
 (.cons (.set (.one 1) (.lc (.one 2) [2] (.sl (.var 0) .nil (.int 63)) .nil (.blt .abs (.cons (.blt .int (.cons (.var 2) .nil)) .nil))))
 (.cons (.ret (.lst (.cons (.var 1) (.cons (.int 0) (.cons (.int 0) (.cons (.op .add (.int 211) (.op .mul (.int 23) (.blt .len (.cons (.var 1) .nil)))) (.cons (.int 0) .nil)))))))
 .nil))⟩
def d__law_draw : DefS := ⟨"_law_draw", ["hand", "many"], ["hand", "many", "number", "cell", "digit"],
 (.cons (.ite (.and (.op .eq (.ix (.var 0) (.int 2)) (.int 0)) (.op .lt (.ix (.var 0) (.int 1)) (.blt .len (.cons (.ix (.var 0) (.int 0)) .nil))))
 (.cons (.set (.one 3) (.ix (.ix (.var 0) (.int 0)) (.ix (.var 0) (.int 1))))
 (.cons (.seti 0 (.int 1) (.op .add (.ix (.var 0) (.int 1)) (.int 1)))
 (.cons (.seti 0 (.int 3) (.op .mod (.blt .int (.cons (.op .add (.op .add (.op .mul (.ix (.var 0) (.int 3)) (.int 69621)) (.var 3)) (.int 29)) .nil)) (.int 2147483629)))
 (.cons (.ite (.op .ge (.var 3) (.op .pow (.int 10) (.int 18)))
 (.cons (.seti 0 (.int 2) (.var 3))
 .nil)
 .nil)
 .nil))))
 .nil)
 (.cons (.ite (.op .gt (.ix (.var 0) (.int 2)) (.int 0))
 (.cons (.set (.one 4) (.op .mod (.blt .int (.cons (.ix (.var 0) (.int 2)) .nil)) (.var 1)))
 (.cons (.seti 0 (.int 2) (.op .fdiv (.ix (.var 0) (.int 2)) (.var 1)))
 (.cons (.ret (.var 4))
 .nil)))
 .nil)
 (.cons (.seti 0 (.int 4) (.op .add (.ix (.var 0) (.int 4)) (.int 1)))
 (.cons (.set (.one 2) (.op .mod (.blt .int (.cons (.op .mul (.blt .int (.cons (.op .add (.ix (.var 0) (.int 3)) (.op .mul (.int 7919) (.ix (.var 0) (.int 4)))) .nil)) (.int 48271)) .nil)) (.int 2147483647)))
 (.cons (.set (.one 2) (.op .mod (.blt .int (.cons (.op .mul (.var 2) (.op .add (.op .fdiv (.var 2) (.int 1009)) (.int 69621))) .nil)) (.int 2147483647)))
 (.cons (.set (.one 2) (.op .mod (.blt .int (.cons (.op .mul (.var 2) (.op .add (.op .fdiv (.var 2) (.int 2003)) (.int 40692))) .nil)) (.int 2147483399)))
 (.cons (.ret (.op .mod (.blt .int (.cons (.op .fdiv (.var 2) (.int 16)) .nil)) (.var 1)))
 .nil)))))))⟩
def cs : List (String × Nat) := [("is_integer", 1), ("is_within", 3), ("is_lot", 2), ("is_lot_of", 2), ("check_lot", 2), ("others_of", 2), ("can_take", 3), ("can_in", 2), ("order_in", 2), ("taken_in", 2), ("is_all", 2), ("enough", 2), ("full_needs", 2), ("_law_some", 2), ("_law_is", 2), ("_law_crowd", 2), ("_law_besides", 1), ("_law_drawn_lot", 2), ("_law_made", 1), ("_law_is_ringless", 2), ("law", 1), ("_law_hand", 1), ("_law_draw", 2), ("besides", 1), ("Crowd", 3), ("==", 2)]
def cs0 : List (String × Nat) := [("is_integer", 1), ("is_within", 3), ("is_tuple", 3), ("is_tie", 2), ("are_ties", 2), ("are_needs", 2)]
def gi : List (String × Int) := [("MOST_PERSONS", 9), ("MOST_NEED", 9), ("MOST_LESS", 3)]
def fs : List DefS := [d_is_integer, d_is_within, d_is_lot, d_is_lot_of, d_check_lot, d_others_of, d_can_take, d_can_in, d_order_in, d_taken_in, d_is_all, d_enough, d_full_needs, d__law_some, d__law_is, d__law_crowd, d__law_besides, d__law_drawn_lot, d__law_made, d__law_is_ringless, d_law]
def fs0 : List DefS := [d_is_integer, d_is_within, d_is_tuple, d_is_tie, d_are_ties, d_are_needs]
theorem chk_is_integer : chkSs ⟨d_is_integer.N, cs, gi⟩ (defScope (top 1)) d_is_integer.body (defBody (top 1)) = true := by decide +kernel
theorem chk_is_within : chkSs ⟨d_is_within.N, cs, gi⟩ (defScope (top 2)) d_is_within.body (defBody (top 2)) = true := by decide +kernel
theorem chk_is_lot : chkSs ⟨d_is_lot.N, cs, gi⟩ (defScope (top 4)) d_is_lot.body (defBody (top 4)) = true := by decide +kernel
theorem chk_is_lot_of : chkSs ⟨d_is_lot_of.N, cs, gi⟩ (defScope (top 18)) d_is_lot_of.body (defBody (top 18)) = true := by decide +kernel
theorem chk_check_lot : chkSs ⟨d_check_lot.N, cs, gi⟩ (defScope (top 19)) d_check_lot.body (defBody (top 19)) = true := by decide +kernel
theorem chk_others_of : chkSs ⟨d_others_of.N, cs, gi⟩ (defScope (top 20)) d_others_of.body (defBody (top 20)) = true := by decide +kernel
theorem chk_can_take : chkSs ⟨d_can_take.N, cs, gi⟩ (defScope (top 22)) d_can_take.body (defBody (top 22)) = true := by decide +kernel
theorem chk_can_in : chkSs ⟨d_can_in.N, cs, gi⟩ (defScope (top 23)) d_can_in.body (defBody (top 23)) = true := by decide +kernel
theorem chk_order_in : chkSs ⟨d_order_in.N, cs, gi⟩ (defScope (top 24)) d_order_in.body (defBody (top 24)) = true := by decide +kernel
theorem chk_taken_in : chkSs ⟨d_taken_in.N, cs, gi⟩ (defScope (top 25)) d_taken_in.body (defBody (top 25)) = true := by decide +kernel
theorem chk_is_all : chkSs ⟨d_is_all.N, cs, gi⟩ (defScope (top 27)) d_is_all.body (defBody (top 27)) = true := by decide +kernel
theorem chk_enough : chkSs ⟨d_enough.N, cs, gi⟩ (defScope (top 28)) d_enough.body (defBody (top 28)) = true := by decide +kernel
theorem chk_full_needs : chkSs ⟨d_full_needs.N, cs, gi⟩ (defScope (top 31)) d_full_needs.body (defBody (top 31)) = true := by decide +kernel
theorem chk__law_some : chkSs ⟨d__law_some.N, cs, gi⟩ (defScope (top 35)) d__law_some.body (defBody (top 35)) = true := by decide +kernel
theorem chk__law_is : chkSs ⟨d__law_is.N, cs, gi⟩ (defScope (top 36)) d__law_is.body (defBody (top 36)) = true := by decide +kernel
theorem chk__law_crowd : chkSs ⟨d__law_crowd.N, cs, gi⟩ (defScope (top 37)) d__law_crowd.body (defBody (top 37)) = true := by decide +kernel
theorem chk__law_besides : chkSs ⟨d__law_besides.N, cs, gi⟩ (defScope (top 38)) d__law_besides.body (defBody (top 38)) = true := by decide +kernel
theorem chk__law_drawn_lot : chkSs ⟨d__law_drawn_lot.N, cs, gi⟩ (defScope (top 39)) d__law_drawn_lot.body (defBody (top 39)) = true := by decide +kernel
theorem chk__law_made : chkSs ⟨d__law_made.N, cs, gi⟩ (defScope (top 40)) d__law_made.body (defBody (top 40)) = true := by decide +kernel
theorem chk__law_is_ringless : chkSs ⟨d__law_is_ringless.N, cs, gi⟩ (defScope (top 41)) d__law_is_ringless.body (defBody (top 41)) = true := by decide +kernel
theorem chk_law : chkSs ⟨d_law.N, cs, gi⟩ (defScope (top 42)) d_law.body (defBody (top 42)) = true := by decide +kernel
theorem chk0_is_integer : chkSs ⟨d_is_integer.N, cs0, gi⟩ (defScope (top 1)) d_is_integer.body (defBody (top 1)) = true := by decide +kernel
theorem chk0_is_within : chkSs ⟨d_is_within.N, cs0, gi⟩ (defScope (top 2)) d_is_within.body (defBody (top 2)) = true := by decide +kernel
theorem chk0_is_tuple : chkSs ⟨d_is_tuple.N, cs0, gi⟩ (defScope (top 3)) d_is_tuple.body (defBody (top 3)) = true := by decide +kernel
theorem chk0_is_tie : chkSs ⟨d_is_tie.N, cs0, gi⟩ (defScope (top 13)) d_is_tie.body (defBody (top 13)) = true := by decide +kernel
theorem chk0_are_ties : chkSs ⟨d_are_ties.N, cs0, gi⟩ (defScope (top 14)) d_are_ties.body (defBody (top 14)) = true := by decide +kernel
theorem chk0_are_needs : chkSs ⟨d_are_needs.N, cs0, gi⟩ (defScope (top 15)) d_are_needs.body (defBody (top 15)) = true := by decide +kernel
theorem chk0__law_hand : chkSs ⟨d__law_hand.N, [], gi⟩ (defScope (top 33)) d__law_hand.body (defBody (top 33)) = true := by decide +kernel
theorem chk0__law_draw : chkSs ⟨d__law_draw.N, [], gi⟩ (defScope (top 34)) d__law_draw.body (defBody (top 34)) = true := by decide +kernel
theorem sco_is_integer : FnScope d_is_integer.N d_is_integer.ps (defScope (top 1)) := ⟨rfl, rfl, rfl, by decide +kernel, rfl, by decide +kernel, by decide +kernel⟩
theorem sco_is_within : FnScope d_is_within.N d_is_within.ps (defScope (top 2)) := ⟨rfl, rfl, rfl, by decide +kernel, rfl, by decide +kernel, by decide +kernel⟩
theorem sco_is_lot : FnScope d_is_lot.N d_is_lot.ps (defScope (top 4)) := ⟨rfl, rfl, rfl, by decide +kernel, rfl, by decide +kernel, by decide +kernel⟩
theorem sco_is_lot_of : FnScope d_is_lot_of.N d_is_lot_of.ps (defScope (top 18)) := ⟨rfl, rfl, rfl, by decide +kernel, rfl, by decide +kernel, by decide +kernel⟩
theorem sco_check_lot : FnScope d_check_lot.N d_check_lot.ps (defScope (top 19)) := ⟨rfl, rfl, rfl, by decide +kernel, rfl, by decide +kernel, by decide +kernel⟩
theorem sco_others_of : FnScope d_others_of.N d_others_of.ps (defScope (top 20)) := ⟨rfl, rfl, rfl, by decide +kernel, rfl, by decide +kernel, by decide +kernel⟩
theorem sco_can_take : FnScope d_can_take.N d_can_take.ps (defScope (top 22)) := ⟨rfl, rfl, rfl, by decide +kernel, rfl, by decide +kernel, by decide +kernel⟩
theorem sco_can_in : FnScope d_can_in.N d_can_in.ps (defScope (top 23)) := ⟨rfl, rfl, rfl, by decide +kernel, rfl, by decide +kernel, by decide +kernel⟩
theorem sco_order_in : FnScope d_order_in.N d_order_in.ps (defScope (top 24)) := ⟨rfl, rfl, rfl, by decide +kernel, rfl, by decide +kernel, by decide +kernel⟩
theorem sco_taken_in : FnScope d_taken_in.N d_taken_in.ps (defScope (top 25)) := ⟨rfl, rfl, rfl, by decide +kernel, rfl, by decide +kernel, by decide +kernel⟩
theorem sco_is_all : FnScope d_is_all.N d_is_all.ps (defScope (top 27)) := ⟨rfl, rfl, rfl, by decide +kernel, rfl, by decide +kernel, by decide +kernel⟩
theorem sco_enough : FnScope d_enough.N d_enough.ps (defScope (top 28)) := ⟨rfl, rfl, rfl, by decide +kernel, rfl, by decide +kernel, by decide +kernel⟩
theorem sco_full_needs : FnScope d_full_needs.N d_full_needs.ps (defScope (top 31)) := ⟨rfl, rfl, rfl, by decide +kernel, rfl, by decide +kernel, by decide +kernel⟩
theorem sco__law_some : FnScope d__law_some.N d__law_some.ps (defScope (top 35)) := ⟨rfl, rfl, rfl, by decide +kernel, rfl, by decide +kernel, by decide +kernel⟩
theorem sco__law_is : FnScope d__law_is.N d__law_is.ps (defScope (top 36)) := ⟨rfl, rfl, rfl, by decide +kernel, rfl, by decide +kernel, by decide +kernel⟩
theorem sco__law_crowd : FnScope d__law_crowd.N d__law_crowd.ps (defScope (top 37)) := ⟨rfl, rfl, rfl, by decide +kernel, rfl, by decide +kernel, by decide +kernel⟩
theorem sco__law_besides : FnScope d__law_besides.N d__law_besides.ps (defScope (top 38)) := ⟨rfl, rfl, rfl, by decide +kernel, rfl, by decide +kernel, by decide +kernel⟩
theorem sco__law_drawn_lot : FnScope d__law_drawn_lot.N d__law_drawn_lot.ps (defScope (top 39)) := ⟨rfl, rfl, rfl, by decide +kernel, rfl, by decide +kernel, by decide +kernel⟩
theorem sco__law_made : FnScope d__law_made.N d__law_made.ps (defScope (top 40)) := ⟨rfl, rfl, rfl, by decide +kernel, rfl, by decide +kernel, by decide +kernel⟩
theorem sco__law_is_ringless : FnScope d__law_is_ringless.N d__law_is_ringless.ps (defScope (top 41)) := ⟨rfl, rfl, rfl, by decide +kernel, rfl, by decide +kernel, by decide +kernel⟩
theorem sco_law : FnScope d_law.N d_law.ps (defScope (top 42)) := ⟨rfl, rfl, rfl, by decide +kernel, rfl, by decide +kernel, by decide +kernel⟩
theorem sco_is_tuple : FnScope d_is_tuple.N d_is_tuple.ps (defScope (top 3)) := ⟨rfl, rfl, rfl, by decide +kernel, rfl, by decide +kernel, by decide +kernel⟩
theorem sco_is_tie : FnScope d_is_tie.N d_is_tie.ps (defScope (top 13)) := ⟨rfl, rfl, rfl, by decide +kernel, rfl, by decide +kernel, by decide +kernel⟩
theorem sco_are_ties : FnScope d_are_ties.N d_are_ties.ps (defScope (top 14)) := ⟨rfl, rfl, rfl, by decide +kernel, rfl, by decide +kernel, by decide +kernel⟩
theorem sco_are_needs : FnScope d_are_needs.N d_are_needs.ps (defScope (top 15)) := ⟨rfl, rfl, rfl, by decide +kernel, rfl, by decide +kernel, by decide +kernel⟩
theorem sco__law_hand : FnScope d__law_hand.N d__law_hand.ps (defScope (top 33)) := ⟨rfl, rfl, rfl, by decide +kernel, rfl, by decide +kernel, by decide +kernel⟩
theorem sco__law_draw : FnScope d__law_draw.N d__law_draw.ps (defScope (top 34)) := ⟨rfl, rfl, rfl, by decide +kernel, rfl, by decide +kernel, by decide +kernel⟩
def nBes : List Str := ["crowd", "found", "a", "b", "person", "row"]
theorem chk_besides : chkBes ⟨nBes, [], gi⟩ (defScope (top 17)) 1 2 3 4 5 (defBody (top 17)) = true := by decide +kernel
theorem sco_besides : FnScope nBes ["crowd"] (defScope (top 17)) := ⟨rfl, rfl, rfl, by decide +kernel, rfl, by decide +kernel, by decide +kernel⟩
def nIni : List Str := ["self", "persons", "ties", "needs"]
theorem chk_init : chkInit ⟨nIni, cs0, gi⟩ (defScope (inClass (top 16) 0)) (defBody (inClass (top 16) 0)) = true := by decide +kernel
theorem sco_init : FnScope nIni nIni (defScope (inClass (top 16) 0)) := ⟨rfl, rfl, rfl, by decide +kernel, rfl, by decide +kernel, by decide +kernel⟩
def nPar : List Str := ["self"]
theorem sco_Par : FnScope nPar nPar (defScope (inClass (top 16) 2)) := ⟨rfl, rfl, rfl, by decide +kernel, rfl, by decide +kernel, by decide +kernel⟩
theorem chk_Par : chkSs ⟨nPar, [], gi⟩ (defScope (inClass (top 16) 2)) sParts (defBody (inClass (top 16) 2)) = true := by decide +kernel
def nEqc : List Str := ["self", "other"]
theorem sco_Eqc : FnScope nEqc nEqc (defScope (inClass (top 16) 1)) := ⟨rfl, rfl, rfl, by decide +kernel, rfl, by decide +kernel, by decide +kernel⟩
theorem chk_Eqc : chkEq ⟨nEqc, [], gi⟩ (defScope (inClass (top 16) 1)) (defBody (inClass (top 16) 1)) = true := by decide +kernel
def dd (x : Str) (m : Option Str) (q : Str) (st : Stmt) : He.DefD := ⟨(x, m), m.getD x, q, defArgs st, defBody st, defScope st, [], []⟩
def fn : List He.DefD := [dd "is_integer" none "is_integer" (top 1), dd "is_within" none "is_within" (top 2), dd "is_lot" none "is_lot" (top 4), dd "is_lot_of" none "is_lot_of" (top 18), dd "check_lot" none "check_lot" (top 19), dd "others_of" none "others_of" (top 20), dd "can_take" none "can_take" (top 22), dd "can_in" none "can_in" (top 23), dd "order_in" none "order_in" (top 24), dd "taken_in" none "taken_in" (top 25), dd "is_all" none "is_all" (top 27), dd "enough" none "enough" (top 28), dd "full_needs" none "full_needs" (top 31), dd "_law_some" none "_law_some" (top 35), dd "_law_is" none "_law_is" (top 36), dd "_law_crowd" none "_law_crowd" (top 37), dd "_law_besides" none "_law_besides" (top 38), dd "_law_drawn_lot" none "_law_drawn_lot" (top 39), dd "_law_made" none "_law_made" (top 40), dd "_law_is_ringless" none "_law_is_ringless" (top 41), dd "law" none "law" (top 42), dd "is_tuple" none "is_tuple" (top 3), dd "is_tie" none "is_tie" (top 13), dd "are_ties" none "are_ties" (top 14), dd "are_needs" none "are_needs" (top 15), dd "_law_hand" none "_law_hand" (top 33), dd "_law_draw" none "_law_draw" (top 34), dd "besides" none "besides" (top 17), dd "Crowd" (some "parts") "Crowd.parts" (inClass (top 16) 2), dd "Crowd" (some "__eq__") "Crowd.__eq__" (inClass (top 16) 1), dd "Crowd" (some "__init__") "Crowd.__init__" (inClass (top 16) 0)]
def fa : List He.Fa := [.glo "is_integer", .glo "is_within", .glo "is_lot", .glo "is_lot_of", .glo "check_lot", .glo "others_of", .glo "can_take", .glo "can_in", .glo "order_in", .glo "taken_in", .glo "is_all", .glo "enough", .glo "full_needs", .glo "_law_some", .glo "_law_is", .glo "_law_crowd", .glo "_law_besides", .glo "_law_drawn_lot", .glo "_law_made", .glo "_law_is_ringless", .glo "law", .glo "is_tuple", .glo "is_tie", .glo "are_ties", .glo "are_needs", .glo "_law_hand", .glo "_law_draw", .glo "besides", .free "len", .free "tuple", .free "list", .free "sorted", .free "all", .free "any", .free "min", .free "max", .free "sum", .free "abs", .free "int", .free "bool", .free "str", .free "range", .free "zip", .free "enumerate", .free "isinstance", .free "repr", .free "set", .free "dict", .glo "Crowd", .cls "Crowd", .mkr "Crowd", .noat "Crowd" "persons", .noat "Crowd" "ties", .noat "Crowd" "needs", .noat "Crowd" "looked", .int "MOST_PERSONS" 9, .int "MOST_NEED" 9, .int "MOST_LESS" 3, .meth "Crowd" "parts", .meth "Crowd" "__eq__"]
def loose0 : List Str := ["is_integer", "is_within", "is_tuple", "is_lot", "CrowdError", "BadCrowd", "NoLot", "NoNumber", "MOST_PERSONS", "MOST_NEED", "is_tie", "are_ties", "are_needs", "Crowd", "besides", "is_lot_of", "check_lot", "others_of", "can_take", "can_in", "order_in", "taken_in", "is_all", "enough", "MOST_LESS", "full_needs", "_law_hand", "_law_draw", "_law_some", "_law_is"]
def loose1 : List Str := ["_law_crowd", "_law_besides", "_law_drawn_lot", "_law_made", "_law_is_ringless"]
def loose : List Str := loose0 ++ loose1
abbrev Rw : PySem.W.OpenRow := PySem.W.OpenLaw.row PySem.Challenge.rw_fortsmet_k12_whole_full_needs_and_covers
abbrev hk : PySem.W.Hook := hookEq 5 fa fn
def ob (s : PySem.W.SharedT) : He.AlD × Bool := obsEq 5 fa fn (HandSHeadRun.getT s)
theorem ob_eq (s : PySem.W.SharedT) : ob s = hk.obs s.abs := obsEq_eq (HandSHeadRun.getT_eq s)
theorem run (w : World) : HandSHeadRun.RunEq Rw (PySem.W.view Rw.prog [42]) hk ob 6000 loose w := by
  intro os
  kernel_rfl
def Wof (K : PySem.W.Frag) : Wd := ⟨K, He.ga K "Crowd", cacheT⟩
def prim : Fns := primOf (crowdT (callF noF fs0 4))
theorem K_core0 : K_core fs0 := by
  repeat' first | exact ⟨⟨_, _, rfl, rfl, rfl⟩⟩ | exact ⟨rfl⟩ | apply And.intro
theorem prim_ok : PrimH prim := primOf_ok K_core0
section
variable {K : PySem.W.Frag} {h : Heap} {mg : Str → Option Value}
theorem facts (X : K.In h) (G : h.Ns mainGlobals mg) (c : He.SaysD fa fn K) : Facts (Wof K) mg gi := by
  refine ⟨fun p hp => ?_, fun x hx => ?_, He.cls_ok (c.fact 49 (f := .cls "Crowd") rfl), fun x hx => ?_⟩
  · simp only [gi, List.mem_cons, List.not_mem_nil, or_false] at hp
    rcases hp with rfl | rfl | rfl
    · exact He.int_ok X G (c.fact 55 (f := .int "MOST_PERSONS" 9) rfl)
    · exact He.int_ok X G (c.fact 56 (f := .int "MOST_NEED" 9) rfl)
    · exact He.int_ok X G (c.fact 57 (f := .int "MOST_LESS" 3) rfl)
  · simp only [blts, List.mem_cons, List.not_mem_nil, or_false] at hx
    rcases hx with rfl | rfl | rfl | rfl | rfl | rfl | rfl | rfl | rfl | rfl | rfl | rfl | rfl | rfl | rfl | rfl | rfl | rfl | rfl | rfl
    · exact He.free_ok X G (c.fact 28 (f := .free "len") rfl)
    · exact He.free_ok X G (c.fact 29 (f := .free "tuple") rfl)
    · exact He.free_ok X G (c.fact 30 (f := .free "list") rfl)
    · exact He.free_ok X G (c.fact 31 (f := .free "sorted") rfl)
    · exact He.free_ok X G (c.fact 32 (f := .free "all") rfl)
    · exact He.free_ok X G (c.fact 33 (f := .free "any") rfl)
    · exact He.free_ok X G (c.fact 34 (f := .free "min") rfl)
    · exact He.free_ok X G (c.fact 35 (f := .free "max") rfl)
    · exact He.free_ok X G (c.fact 36 (f := .free "sum") rfl)
    · exact He.free_ok X G (c.fact 37 (f := .free "abs") rfl)
    · exact He.free_ok X G (c.fact 38 (f := .free "int") rfl)
    · exact He.free_ok X G (c.fact 39 (f := .free "bool") rfl)
    · exact He.free_ok X G (c.fact 40 (f := .free "str") rfl)
    · exact He.free_ok X G (c.fact 41 (f := .free "range") rfl)
    · exact He.free_ok X G (c.fact 42 (f := .free "zip") rfl)
    · exact He.free_ok X G (c.fact 43 (f := .free "enumerate") rfl)
    · exact He.free_ok X G (c.fact 44 (f := .free "isinstance") rfl)
    · exact He.free_ok X G (c.fact 45 (f := .free "repr") rfl)
    · exact He.free_ok X G (c.fact 46 (f := .free "set") rfl)
    · exact He.free_ok X G (c.fact 47 (f := .free "dict") rfl)
  · simp only [List.mem_cons, List.not_mem_nil, or_false] at hx
    rcases hx with rfl | rfl | rfl | rfl
    · exact He.noat_ok (c.fact 51 (f := .noat "Crowd" "persons") rfl)
    · exact He.noat_ok (c.fact 52 (f := .noat "Crowd" "ties") rfl)
    · exact He.noat_ok (c.fact 53 (f := .noat "Crowd" "needs") rfl)
    · exact He.noat_ok (c.fact 54 (f := .noat "Crowd" "looked") rfl)
theorem ok_is_integer (X : K.In h) (G : h.Ns mainGlobals mg) (c : He.SaysD fa fn K) : DefOk (Wof K) mg cs gi d_is_integer := by
  obtain ⟨fd, F⟩ := c.def_ 0 (d := dd "is_integer" none "is_integer" (top 1)) rfl
  exact ⟨⟨He.ga K "is_integer", fd, _, _, _, _, _, He.glo_ok X G (c.fact 0 (f := .glo "is_integer") rfl), F, FunD.bindsN F fun _ _ _ _ _ _ us hl => match us, hl with | [_], _ => rfl, sco_is_integer, chk_is_integer⟩, by decide⟩
theorem ok_is_within (X : K.In h) (G : h.Ns mainGlobals mg) (c : He.SaysD fa fn K) : DefOk (Wof K) mg cs gi d_is_within := by
  obtain ⟨fd, F⟩ := c.def_ 1 (d := dd "is_within" none "is_within" (top 2)) rfl
  exact ⟨⟨He.ga K "is_within", fd, _, _, _, _, _, He.glo_ok X G (c.fact 1 (f := .glo "is_within") rfl), F, FunD.bindsN F fun _ _ _ _ _ _ us hl => match us, hl with | [_, _, _], _ => rfl, sco_is_within, chk_is_within⟩, by decide⟩
theorem ok_is_lot (X : K.In h) (G : h.Ns mainGlobals mg) (c : He.SaysD fa fn K) : DefOk (Wof K) mg cs gi d_is_lot := by
  obtain ⟨fd, F⟩ := c.def_ 2 (d := dd "is_lot" none "is_lot" (top 4)) rfl
  exact ⟨⟨He.ga K "is_lot", fd, _, _, _, _, _, He.glo_ok X G (c.fact 2 (f := .glo "is_lot") rfl), F, FunD.bindsN F fun _ _ _ _ _ _ us hl => match us, hl with | [_, _], _ => rfl, sco_is_lot, chk_is_lot⟩, by decide⟩
theorem ok_is_lot_of (X : K.In h) (G : h.Ns mainGlobals mg) (c : He.SaysD fa fn K) : DefOk (Wof K) mg cs gi d_is_lot_of := by
  obtain ⟨fd, F⟩ := c.def_ 3 (d := dd "is_lot_of" none "is_lot_of" (top 18)) rfl
  exact ⟨⟨He.ga K "is_lot_of", fd, _, _, _, _, _, He.glo_ok X G (c.fact 3 (f := .glo "is_lot_of") rfl), F, FunD.bindsN F fun _ _ _ _ _ _ us hl => match us, hl with | [_, _], _ => rfl, sco_is_lot_of, chk_is_lot_of⟩, by decide⟩
theorem ok_check_lot (X : K.In h) (G : h.Ns mainGlobals mg) (c : He.SaysD fa fn K) : DefOk (Wof K) mg cs gi d_check_lot := by
  obtain ⟨fd, F⟩ := c.def_ 4 (d := dd "check_lot" none "check_lot" (top 19)) rfl
  exact ⟨⟨He.ga K "check_lot", fd, _, _, _, _, _, He.glo_ok X G (c.fact 4 (f := .glo "check_lot") rfl), F, FunD.bindsN F fun _ _ _ _ _ _ us hl => match us, hl with | [_, _], _ => rfl, sco_check_lot, chk_check_lot⟩, by decide⟩
theorem ok_others_of (X : K.In h) (G : h.Ns mainGlobals mg) (c : He.SaysD fa fn K) : DefOk (Wof K) mg cs gi d_others_of := by
  obtain ⟨fd, F⟩ := c.def_ 5 (d := dd "others_of" none "others_of" (top 20)) rfl
  exact ⟨⟨He.ga K "others_of", fd, _, _, _, _, _, He.glo_ok X G (c.fact 5 (f := .glo "others_of") rfl), F, FunD.bindsN F fun _ _ _ _ _ _ us hl => match us, hl with | [_, _], _ => rfl, sco_others_of, chk_others_of⟩, by decide⟩
theorem ok_can_take (X : K.In h) (G : h.Ns mainGlobals mg) (c : He.SaysD fa fn K) : DefOk (Wof K) mg cs gi d_can_take := by
  obtain ⟨fd, F⟩ := c.def_ 6 (d := dd "can_take" none "can_take" (top 22)) rfl
  exact ⟨⟨He.ga K "can_take", fd, _, _, _, _, _, He.glo_ok X G (c.fact 6 (f := .glo "can_take") rfl), F, FunD.bindsN F fun _ _ _ _ _ _ us hl => match us, hl with | [_, _, _], _ => rfl, sco_can_take, chk_can_take⟩, by decide⟩
theorem ok_can_in (X : K.In h) (G : h.Ns mainGlobals mg) (c : He.SaysD fa fn K) : DefOk (Wof K) mg cs gi d_can_in := by
  obtain ⟨fd, F⟩ := c.def_ 7 (d := dd "can_in" none "can_in" (top 23)) rfl
  exact ⟨⟨He.ga K "can_in", fd, _, _, _, _, _, He.glo_ok X G (c.fact 7 (f := .glo "can_in") rfl), F, FunD.bindsN F fun _ _ _ _ _ _ us hl => match us, hl with | [_, _], _ => rfl, sco_can_in, chk_can_in⟩, by decide⟩
theorem ok_order_in (X : K.In h) (G : h.Ns mainGlobals mg) (c : He.SaysD fa fn K) : DefOk (Wof K) mg cs gi d_order_in := by
  obtain ⟨fd, F⟩ := c.def_ 8 (d := dd "order_in" none "order_in" (top 24)) rfl
  exact ⟨⟨He.ga K "order_in", fd, _, _, _, _, _, He.glo_ok X G (c.fact 8 (f := .glo "order_in") rfl), F, FunD.bindsN F fun _ _ _ _ _ _ us hl => match us, hl with | [_, _], _ => rfl, sco_order_in, chk_order_in⟩, by decide⟩
theorem ok_taken_in (X : K.In h) (G : h.Ns mainGlobals mg) (c : He.SaysD fa fn K) : DefOk (Wof K) mg cs gi d_taken_in := by
  obtain ⟨fd, F⟩ := c.def_ 9 (d := dd "taken_in" none "taken_in" (top 25)) rfl
  exact ⟨⟨He.ga K "taken_in", fd, _, _, _, _, _, He.glo_ok X G (c.fact 9 (f := .glo "taken_in") rfl), F, FunD.bindsN F fun _ _ _ _ _ _ us hl => match us, hl with | [_, _], _ => rfl, sco_taken_in, chk_taken_in⟩, by decide⟩
theorem ok_is_all (X : K.In h) (G : h.Ns mainGlobals mg) (c : He.SaysD fa fn K) : DefOk (Wof K) mg cs gi d_is_all := by
  obtain ⟨fd, F⟩ := c.def_ 10 (d := dd "is_all" none "is_all" (top 27)) rfl
  exact ⟨⟨He.ga K "is_all", fd, _, _, _, _, _, He.glo_ok X G (c.fact 10 (f := .glo "is_all") rfl), F, FunD.bindsN F fun _ _ _ _ _ _ us hl => match us, hl with | [_, _], _ => rfl, sco_is_all, chk_is_all⟩, by decide⟩
theorem ok_enough (X : K.In h) (G : h.Ns mainGlobals mg) (c : He.SaysD fa fn K) : DefOk (Wof K) mg cs gi d_enough := by
  obtain ⟨fd, F⟩ := c.def_ 11 (d := dd "enough" none "enough" (top 28)) rfl
  exact ⟨⟨He.ga K "enough", fd, _, _, _, _, _, He.glo_ok X G (c.fact 11 (f := .glo "enough") rfl), F, FunD.bindsN F fun _ _ _ _ _ _ us hl => match us, hl with | [_, _], _ => rfl, sco_enough, chk_enough⟩, by decide⟩
theorem ok_full_needs (X : K.In h) (G : h.Ns mainGlobals mg) (c : He.SaysD fa fn K) : DefOk (Wof K) mg cs gi d_full_needs := by
  obtain ⟨fd, F⟩ := c.def_ 12 (d := dd "full_needs" none "full_needs" (top 31)) rfl
  exact ⟨⟨He.ga K "full_needs", fd, _, _, _, _, _, He.glo_ok X G (c.fact 12 (f := .glo "full_needs") rfl), F, FunD.bindsN F fun _ _ _ _ _ _ us hl => match us, hl with | [_, _], _ => rfl, sco_full_needs, chk_full_needs⟩, by decide⟩
theorem ok__law_some (X : K.In h) (G : h.Ns mainGlobals mg) (c : He.SaysD fa fn K) : DefOk (Wof K) mg cs gi d__law_some := by
  obtain ⟨fd, F⟩ := c.def_ 13 (d := dd "_law_some" none "_law_some" (top 35)) rfl
  exact ⟨⟨He.ga K "_law_some", fd, _, _, _, _, _, He.glo_ok X G (c.fact 13 (f := .glo "_law_some") rfl), F, FunD.bindsN F fun _ _ _ _ _ _ us hl => match us, hl with | [_, _], _ => rfl, sco__law_some, chk__law_some⟩, by decide⟩
theorem ok__law_is (X : K.In h) (G : h.Ns mainGlobals mg) (c : He.SaysD fa fn K) : DefOk (Wof K) mg cs gi d__law_is := by
  obtain ⟨fd, F⟩ := c.def_ 14 (d := dd "_law_is" none "_law_is" (top 36)) rfl
  exact ⟨⟨He.ga K "_law_is", fd, _, _, _, _, _, He.glo_ok X G (c.fact 14 (f := .glo "_law_is") rfl), F, FunD.bindsN F fun _ _ _ _ _ _ us hl => match us, hl with | [_, _], _ => rfl, sco__law_is, chk__law_is⟩, by decide⟩
theorem ok__law_crowd (X : K.In h) (G : h.Ns mainGlobals mg) (c : He.SaysD fa fn K) : DefOk (Wof K) mg cs gi d__law_crowd := by
  obtain ⟨fd, F⟩ := c.def_ 15 (d := dd "_law_crowd" none "_law_crowd" (top 37)) rfl
  exact ⟨⟨He.ga K "_law_crowd", fd, _, _, _, _, _, He.glo_ok X G (c.fact 15 (f := .glo "_law_crowd") rfl), F, FunD.bindsN F fun _ _ _ _ _ _ us hl => match us, hl with | [_, _], _ => rfl, sco__law_crowd, chk__law_crowd⟩, by decide⟩
theorem ok__law_besides (X : K.In h) (G : h.Ns mainGlobals mg) (c : He.SaysD fa fn K) : DefOk (Wof K) mg cs gi d__law_besides := by
  obtain ⟨fd, F⟩ := c.def_ 16 (d := dd "_law_besides" none "_law_besides" (top 38)) rfl
  exact ⟨⟨He.ga K "_law_besides", fd, _, _, _, _, _, He.glo_ok X G (c.fact 16 (f := .glo "_law_besides") rfl), F, FunD.bindsN F fun _ _ _ _ _ _ us hl => match us, hl with | [_], _ => rfl, sco__law_besides, chk__law_besides⟩, by decide⟩
theorem ok__law_drawn_lot (X : K.In h) (G : h.Ns mainGlobals mg) (c : He.SaysD fa fn K) : DefOk (Wof K) mg cs gi d__law_drawn_lot := by
  obtain ⟨fd, F⟩ := c.def_ 17 (d := dd "_law_drawn_lot" none "_law_drawn_lot" (top 39)) rfl
  exact ⟨⟨He.ga K "_law_drawn_lot", fd, _, _, _, _, _, He.glo_ok X G (c.fact 17 (f := .glo "_law_drawn_lot") rfl), F, FunD.bindsN F fun _ _ _ _ _ _ us hl => match us, hl with | [_, _], _ => rfl, sco__law_drawn_lot, chk__law_drawn_lot⟩, by decide⟩
theorem ok__law_made (X : K.In h) (G : h.Ns mainGlobals mg) (c : He.SaysD fa fn K) : DefOk (Wof K) mg cs gi d__law_made := by
  obtain ⟨fd, F⟩ := c.def_ 18 (d := dd "_law_made" none "_law_made" (top 40)) rfl
  exact ⟨⟨He.ga K "_law_made", fd, _, _, _, _, _, He.glo_ok X G (c.fact 18 (f := .glo "_law_made") rfl), F, FunD.bindsN F fun _ _ _ _ _ _ us hl => match us, hl with | [_], _ => rfl, sco__law_made, chk__law_made⟩, by decide⟩
theorem ok__law_is_ringless (X : K.In h) (G : h.Ns mainGlobals mg) (c : He.SaysD fa fn K) : DefOk (Wof K) mg cs gi d__law_is_ringless := by
  obtain ⟨fd, F⟩ := c.def_ 19 (d := dd "_law_is_ringless" none "_law_is_ringless" (top 41)) rfl
  exact ⟨⟨He.ga K "_law_is_ringless", fd, _, _, _, _, _, He.glo_ok X G (c.fact 19 (f := .glo "_law_is_ringless") rfl), F, FunD.bindsN F fun _ _ _ _ _ _ us hl => match us, hl with | [_, _], _ => rfl, sco__law_is_ringless, chk__law_is_ringless⟩, by decide⟩
theorem ok_law (X : K.In h) (G : h.Ns mainGlobals mg) (c : He.SaysD fa fn K) : DefOk (Wof K) mg cs gi d_law := by
  obtain ⟨fd, F⟩ := c.def_ 20 (d := dd "law" none "law" (top 42)) rfl
  exact ⟨⟨He.ga K "law", fd, _, _, _, _, _, He.glo_ok X G (c.fact 20 (f := .glo "law") rfl), F, FunD.bindsN F fun _ _ _ _ _ _ us hl => match us, hl with | [_], _ => rfl, sco_law, chk_law⟩, by decide⟩
theorem ok0_is_integer (X : K.In h) (G : h.Ns mainGlobals mg) (c : He.SaysD fa fn K) : DefOk (Wof K) mg cs0 gi d_is_integer := by
  obtain ⟨fd, F⟩ := c.def_ 0 (d := dd "is_integer" none "is_integer" (top 1)) rfl
  exact ⟨⟨He.ga K "is_integer", fd, _, _, _, _, _, He.glo_ok X G (c.fact 0 (f := .glo "is_integer") rfl), F, FunD.bindsN F fun _ _ _ _ _ _ us hl => match us, hl with | [_], _ => rfl, sco_is_integer, chk0_is_integer⟩, by decide⟩
theorem ok0_is_within (X : K.In h) (G : h.Ns mainGlobals mg) (c : He.SaysD fa fn K) : DefOk (Wof K) mg cs0 gi d_is_within := by
  obtain ⟨fd, F⟩ := c.def_ 1 (d := dd "is_within" none "is_within" (top 2)) rfl
  exact ⟨⟨He.ga K "is_within", fd, _, _, _, _, _, He.glo_ok X G (c.fact 1 (f := .glo "is_within") rfl), F, FunD.bindsN F fun _ _ _ _ _ _ us hl => match us, hl with | [_, _, _], _ => rfl, sco_is_within, chk0_is_within⟩, by decide⟩
theorem ok0_is_tuple (X : K.In h) (G : h.Ns mainGlobals mg) (c : He.SaysD fa fn K) : DefOk (Wof K) mg cs0 gi d_is_tuple := by
  obtain ⟨fd, F⟩ := c.def_ 21 (d := dd "is_tuple" none "is_tuple" (top 3)) rfl
  exact ⟨⟨He.ga K "is_tuple", fd, _, _, _, _, _, He.glo_ok X G (c.fact 21 (f := .glo "is_tuple") rfl), F, FunD.bindsN F fun _ _ _ _ _ _ us hl => match us, hl with | [_, _, _], _ => rfl, sco_is_tuple, chk0_is_tuple⟩, by decide⟩
theorem ok0_is_tie (X : K.In h) (G : h.Ns mainGlobals mg) (c : He.SaysD fa fn K) : DefOk (Wof K) mg cs0 gi d_is_tie := by
  obtain ⟨fd, F⟩ := c.def_ 22 (d := dd "is_tie" none "is_tie" (top 13)) rfl
  exact ⟨⟨He.ga K "is_tie", fd, _, _, _, _, _, He.glo_ok X G (c.fact 22 (f := .glo "is_tie") rfl), F, FunD.bindsN F fun _ _ _ _ _ _ us hl => match us, hl with | [_, _], _ => rfl, sco_is_tie, chk0_is_tie⟩, by decide⟩
theorem ok0_are_ties (X : K.In h) (G : h.Ns mainGlobals mg) (c : He.SaysD fa fn K) : DefOk (Wof K) mg cs0 gi d_are_ties := by
  obtain ⟨fd, F⟩ := c.def_ 23 (d := dd "are_ties" none "are_ties" (top 14)) rfl
  exact ⟨⟨He.ga K "are_ties", fd, _, _, _, _, _, He.glo_ok X G (c.fact 23 (f := .glo "are_ties") rfl), F, FunD.bindsN F fun _ _ _ _ _ _ us hl => match us, hl with | [_, _], _ => rfl, sco_are_ties, chk0_are_ties⟩, by decide⟩
theorem ok0_are_needs (X : K.In h) (G : h.Ns mainGlobals mg) (c : He.SaysD fa fn K) : DefOk (Wof K) mg cs0 gi d_are_needs := by
  obtain ⟨fd, F⟩ := c.def_ 24 (d := dd "are_needs" none "are_needs" (top 15)) rfl
  exact ⟨⟨He.ga K "are_needs", fd, _, _, _, _, _, He.glo_ok X G (c.fact 24 (f := .glo "are_needs") rfl), F, FunD.bindsN F fun _ _ _ _ _ _ us hl => match us, hl with | [_, _], _ => rfl, sco_are_needs, chk0_are_needs⟩, by decide⟩
theorem ok0__law_hand (X : K.In h) (G : h.Ns mainGlobals mg) (c : He.SaysD fa fn K) : DefOk (Wof K) mg [] gi d__law_hand := by
  obtain ⟨fd, F⟩ := c.def_ 25 (d := dd "_law_hand" none "_law_hand" (top 33)) rfl
  exact ⟨⟨He.ga K "_law_hand", fd, _, _, _, _, _, He.glo_ok X G (c.fact 25 (f := .glo "_law_hand") rfl), F, FunD.bindsN F fun _ _ _ _ _ _ us hl => match us, hl with | [_], _ => rfl, sco__law_hand, chk0__law_hand⟩, by decide⟩
theorem ok0__law_draw (X : K.In h) (G : h.Ns mainGlobals mg) (c : He.SaysD fa fn K) : DefOk (Wof K) mg [] gi d__law_draw := by
  obtain ⟨fd, F⟩ := c.def_ 26 (d := dd "_law_draw" none "_law_draw" (top 34)) rfl
  exact ⟨⟨He.ga K "_law_draw", fd, _, _, _, _, _, He.glo_ok X G (c.fact 26 (f := .glo "_law_draw") rfl), F, FunD.bindsN F fun _ _ _ _ _ _ us hl => match us, hl with | [_, _], _ => rfl, sco__law_draw, chk0__law_draw⟩, by decide⟩
theorem oks (X : K.In h) (G : h.Ns mainGlobals mg) (c : He.SaysD fa fn K) : ∀ d ∈ fs, DefOk (Wof K) mg cs gi d := by
  intro d hd
  simp only [fs, List.mem_cons, List.not_mem_nil, or_false] at hd
  rcases hd with rfl | rfl | rfl | rfl | rfl | rfl | rfl | rfl | rfl | rfl | rfl | rfl | rfl | rfl | rfl | rfl | rfl | rfl | rfl | rfl | rfl
  · exact ok_is_integer X G c
  · exact ok_is_within X G c
  · exact ok_is_lot X G c
  · exact ok_is_lot_of X G c
  · exact ok_check_lot X G c
  · exact ok_others_of X G c
  · exact ok_can_take X G c
  · exact ok_can_in X G c
  · exact ok_order_in X G c
  · exact ok_taken_in X G c
  · exact ok_is_all X G c
  · exact ok_enough X G c
  · exact ok_full_needs X G c
  · exact ok__law_some X G c
  · exact ok__law_is X G c
  · exact ok__law_crowd X G c
  · exact ok__law_besides X G c
  · exact ok__law_drawn_lot X G c
  · exact ok__law_made X G c
  · exact ok__law_is_ringless X G c
  · exact ok_law X G c
theorem find : ∀ d ∈ fs, findD fs d.name = some d := by
  intro d hd
  simp only [fs, List.mem_cons, List.not_mem_nil, or_false] at hd
  rcases hd with rfl | rfl | rfl | rfl | rfl | rfl | rfl | rfl | rfl | rfl | rfl | rfl | rfl | rfl | rfl | rfl | rfl | rfl | rfl | rfl | rfl <;> rfl
theorem oks0 (X : K.In h) (G : h.Ns mainGlobals mg) (c : He.SaysD fa fn K) : ∀ d ∈ fs0, DefOk (Wof K) mg cs0 gi d := by
  intro d hd
  simp only [fs0, List.mem_cons, List.not_mem_nil, or_false] at hd
  rcases hd with rfl | rfl | rfl | rfl | rfl | rfl
  · exact ok0_is_integer X G c
  · exact ok0_is_within X G c
  · exact ok0_is_tuple X G c
  · exact ok0_is_tie X G c
  · exact ok0_are_ties X G c
  · exact ok0_are_needs X G c
theorem find0 : ∀ d ∈ fs0, findD fs0 d.name = some d := by
  intro d hd
  simp only [fs0, List.mem_cons, List.not_mem_nil, or_false] at hd
  rcases hd with rfl | rfl | rfl | rfl | rfl | rfl <;> rfl
theorem cs0_in : ∀ p ∈ cs0, ∃ d ∈ fs0, d.name = p.1 := by
  intro p hp
  simp only [cs0, List.mem_cons, List.not_mem_nil, or_false] at hp
  rcases hp with rfl | rfl | rfl | rfl | rfl | rfl
  · exact ⟨d_is_integer, by simp [fs0], rfl⟩
  · exact ⟨d_is_within, by simp [fs0], rfl⟩
  · exact ⟨d_is_tuple, by simp [fs0], rfl⟩
  · exact ⟨d_is_tie, by simp [fs0], rfl⟩
  · exact ⟨d_are_ties, by simp [fs0], rfl⟩
  · exact ⟨d_are_needs, by simp [fs0], rfl⟩
def mixD : E := (.op .add (.op .add (.op .mul (.ix (.var 0) (.int 3)) (.int 69621)) (.var 3)) (.int 29))
def mixH : E := (.op .add (.int 211) (.op .mul (.int 23) (.blt .len (.cons (.var 1) .nil))))
end
end Fm
namespace Fm
open PySem PySem.Spec PyProof.Rows L2
section
variable {K : PySem.W.Frag} {h : Heap} {mg : Str → Option Value}
theorem mixD_ok : Mix mixD := ⟨fun F cs i r m t n x a c hm hx => ⟨m * 69621 + x + 29, ev_op (o := .add) (x := .int (m * 69621 + x)) (y := .int 29) (ev_op (o := .add) (x := .int (m * 69621)) (y := .int x) ((ev_op (o := .mul) (x := .int m) (y := .int 69621) rfl rfl).trans (dmulR (by decide))) rfl) rfl⟩⟩
theorem mixH_ok : MixH mixH := ⟨fun F xs a => ⟨211 + 23 * (xs.length : Nat), by omega, ev_op (o := .add) (x := .int 211) (y := .int (23 * (xs.length : Nat))) rfl ((ev_op (o := .mul) (x := .int 23) (y := .int (xs.length : Nat)) rfl rfl).trans (dmulL (by decide)))⟩⟩
theorem p_bes {P : Program} {w : World} {base : Heap} (X : K.In h) (G : h.Ns mainGlobals mg) (c : He.SaysD fa fn K) : PrimOk (Wof K) P w mg base prim 1 "besides" := by
  obtain ⟨fd, F⟩ := c.def_ 27 (d := dd "besides" none "besides" (top 17)) rfl
  exact besides_prim (ps := ["crowd"]) (N := nBes) (i := 1) (a := 2) (b := 3) (pp := 4) (row := 5) (facts X G c) (He.glo_ok X G (c.fact 27 (f := .glo "besides") rfl)) F (FunD.bindsN F fun _ _ _ _ _ _ us hl => match us, hl with | [_], _ => rfl) sco_besides rfl (by decide +kernel) chk_besides (fun n ts ns _ => by simp [Wof, cacheT]) (by simp [prim, primOf]) (by decide)
theorem csB : (cs.all fun p => (fs.any fun d => d.name == p.1) || (["_law_hand", "_law_draw", "besides", "Crowd", "=="].contains p.1 && (findD fs p.1).isNone)) = true := by decide +kernel
theorem pr_hand {P : Program} {w : World} {base : Heap} (X : K.In h) (G : h.Ns mainGlobals mg) (c : He.SaysD fa fn K) : PrimOk (Wof K) P w mg base prim 12 "_law_hand" := hand_prim (facts X G c) (ok0__law_hand X G c) rfl rfl rfl rfl mixH_ok (by simp [prim, primOf]) (by decide)
theorem pr_draw {P : Program} {w : World} {base : Heap} (X : K.In h) (G : h.Ns mainGlobals mg) (c : He.SaysD fa fn K) : PrimOk (Wof K) P w mg base prim 12 "_law_draw" := draw_prim (facts X G c) (ok0__law_draw X G c) rfl rfl rfl rfl mixD_ok (by simp [prim, primOf]) (by decide)
theorem pr_crowd {P : Program} {w : World} {base : Heap} (X : K.In h) (G : h.Ns mainGlobals mg) (c : He.SaysD fa fn K) : PrimOk (Wof K) P w mg base prim 12 "Crowd" := by
  obtain ⟨fd, F⟩ := c.def_ 30 (d := dd "Crowd" (some "__init__") "Crowd.__init__" (inClass (top 16) 0)) rfl
  exact crowd_prim (ps := nIni) (N := nIni) (facts X G c) (oks0 X G c) find0 cs0_in (He.glo_ok X G (c.fact 48 (f := .glo "Crowd") rfl)) (He.mkr_ok (c.fact 50 (f := .mkr "Crowd") rfl)) F (FunD.bindsN F fun _ _ _ _ _ _ us hl => match us, hl with | [_, _, _, _], _ => rfl) sco_init rfl rfl chk_init (by simp [prim, primOf]) (by decide)
theorem pr_eq {P : Program} {w : World} {base : Heap} (X : K.In h) (G : h.Ns mainGlobals mg) (c : He.SaysD fa fn K) (ce : eqKb K (He.ga K "Crowd") = true) : PrimOk (Wof K) P w mg base prim 12 "==" := by
  obtain ⟨fd1, F1⟩ := c.def_ 28 (d := dd "Crowd" (some "parts") "Crowd.parts" (inClass (top 16) 2)) rfl
  obtain ⟨fd2, F2⟩ := c.def_ 29 (d := dd "Crowd" (some "__eq__") "Crowd.__eq__" (inClass (top 16) 1)) rfl
  exact ⟨fun h => absurd rfl h, fun _ => ⟨2, by decide, eq_fn (Np := nPar) (psp := nPar) (Ne := nEqc) (pse := nEqc) (facts X G c) (eqK_of ce) (He.glo_ok X G (c.fact 48 (f := .glo "Crowd") rfl)) (He.meth_ok (c.fact 58 (f := .meth "Crowd" "parts") rfl)) F1 (FunD.bindsN F1 fun _ _ _ _ _ _ us hl => match us, hl with | [_], _ => rfl) sco_Par rfl chk_Par
    (He.meth_ok (c.fact 59 (f := .meth "Crowd" "__eq__") rfl)) F2 (FunD.bindsN F2 fun _ _ _ _ _ _ us hl => match us, hl with | [_, _], _ => rfl) sco_Eqc rfl chk_Eqc⟩⟩
theorem prims {P : Program} {w : World} {base : Heap} (X : K.In h) (G : h.Ns mainGlobals mg) (c : He.SaysD fa fn K) (ce : eqKb K (He.ga K "Crowd") = true) : ∀ p ∈ cs, (∃ d ∈ fs, d.name = p.1) ∨ (findD fs p.1 = none ∧ PrimOk (Wof K) P w mg base prim 12 p.1) := by
  intro p hp
  have h := List.all_eq_true.mp csB p hp
  rw [Bool.or_eq_true] at h
  rcases h with h | h
  · obtain ⟨d, hd, e⟩ := List.any_eq_true.mp h
    exact .inl ⟨d, hd, eq_of_beq e⟩
  · rw [Bool.and_eq_true, List.contains_iff_mem] at h
    obtain ⟨hm, hf⟩ := h
    refine .inr ⟨Option.isNone_iff_eq_none.mp hf, ?_⟩
    simp only [List.mem_cons, List.not_mem_nil, or_false] at hm
    generalize p.1 = s at hm
    clear hf
    rcases hm with rfl | rfl | rfl | rfl | rfl
    · exact pr_hand X G c
    · exact pr_draw X G c
    · exact (p_bes X G c).mono (by decide)
    · exact pr_crowd X G c
    · exact pr_eq X G c ce
theorem law_fn {P : Program} {w : World} (X : K.In h) (G : h.Ns mainGlobals mg) (c : He.SaysD fa fn K) (ce : eqKb K (He.ga K "Crowd") = true) {f : Addr} (hf : mg ("law" : Str) = some (.ref f)) : ∃ fd : FuncData, (∀ (s : Shared) (v : Value), BindsTo s fd ⟨[v], []⟩ [("script", v)]) ∧
    ∀ base : Heap, FnOk P w K mg base CX0 (12 + 12 + 1) f fd ["script"] (spF (Wof K) (callF prim fs 12) "law") := by
  obtain ⟨fd, F⟩ := c.def_ 20 (d := dd "law" none "law" (top 42)) rfl
  have b := FunD.bindsA (ps := ["script"]) F fun _ _ _ _ _ _ us hl => match us, hl with | [_], _ => rfl
  have e := hf.symm.trans (He.glo_ok X G (c.fact 20 (f := .glo "law") rfl))
  cases e
  refine ⟨fd, fun s v => b s [v] rfl, fun base => ?_⟩
  obtain ⟨a2, fd2, m1, m2, m3, m4⟩ := fn_lvl (P := P) (w := w) (base := base) (prim := prim) (c := 12) (facts X G c) (oks X G c) find (prims X G c ce) 12 d_law (by simp [fs])
  have e2 := hf.symm.trans m1
  cases e2
  have e3 := fn_same (funD_look F) m2.2
  subst e3
  exact m4
theorem Kz_hand : K_hand fs := ⟨rfl⟩
theorem Kz_draw : K_draw fs := ⟨rfl⟩
theorem Kz__law_some : K__law_some fs := ⟨⟨⟨_, _, rfl, rfl, rfl⟩⟩, Kz_draw⟩
theorem Kz__law_crowd : K__law_crowd fs := ⟨⟨⟨_, _, rfl, rfl, rfl⟩⟩, Kz_draw, Kz__law_some⟩
theorem Kz_crowd : K_crowd fs := ⟨rfl⟩
theorem Kz__law_made : K__law_made fs := ⟨⟨⟨_, _, rfl, rfl, rfl⟩⟩, Kz_crowd⟩
theorem Kz__law_besides : K__law_besides fs := ⟨⟨_, _, rfl, rfl, rfl⟩⟩
theorem Kz_is_integer : K_is_integer fs := ⟨⟨_, _, rfl, rfl, rfl⟩⟩
theorem Kz_is_within : K_is_within fs := ⟨⟨⟨_, _, rfl, rfl, rfl⟩⟩, Kz_is_integer⟩
theorem Kz_besides : K_besides fs := ⟨rfl⟩
theorem Kz_full_needs : K_full_needs fs := ⟨⟨⟨_, _, rfl, rfl, rfl⟩⟩, Kz_is_within, Kz_crowd, Kz_besides⟩
theorem Kz__law_is : K__law_is fs := ⟨⟨_, _, rfl, rfl, rfl⟩⟩
theorem Kz__law_drawn_lot : K__law_drawn_lot fs := ⟨⟨⟨_, _, rfl, rfl, rfl⟩⟩, Kz_draw⟩
theorem Kz_is_lot : K_is_lot fs := ⟨⟨⟨_, _, rfl, rfl, rfl⟩⟩, Kz_is_within⟩
theorem Kz_is_lot_of : K_is_lot_of fs := ⟨⟨⟨_, _, rfl, rfl, rfl⟩⟩, Kz_is_lot⟩
theorem Kz_check_lot : K_check_lot fs := ⟨⟨⟨_, _, rfl, rfl, rfl⟩⟩, Kz_is_lot_of⟩
theorem Kz_can_take : K_can_take fs := ⟨⟨⟨_, _, rfl, rfl, rfl⟩⟩, Kz_besides⟩
theorem Kz_can_in : K_can_in fs := ⟨⟨⟨_, _, rfl, rfl, rfl⟩⟩, Kz_can_take⟩
theorem Kz_order_in : K_order_in fs := ⟨⟨⟨_, _, rfl, rfl, rfl⟩⟩, Kz_can_in⟩
theorem Kz_taken_in : K_taken_in fs := ⟨⟨⟨_, _, rfl, rfl, rfl⟩⟩, Kz_order_in⟩
theorem Kz_is_all : K_is_all fs := ⟨⟨⟨_, _, rfl, rfl, rfl⟩⟩, Kz_taken_in⟩
theorem Kz_others_of : K_others_of fs := ⟨⟨_, _, rfl, rfl, rfl⟩⟩
theorem Kz_enough : K_enough fs := ⟨⟨⟨_, _, rfl, rfl, rfl⟩⟩, Kz_check_lot, Kz_is_all, Kz_others_of⟩
theorem Kz__law_is_ringless : K__law_is_ringless fs := ⟨⟨⟨_, _, rfl, rfl, rfl⟩⟩, Kz__law_besides⟩
theorem Kz_law : K_law fs := ⟨⟨⟨_, _, rfl, rfl, rfl⟩⟩, Kz_hand, Kz__law_crowd, Kz__law_made, Kz__law_besides, Kz_full_needs, Kz__law_is, Kz__law_drawn_lot, Kz_enough, Kz__law_is_ringless⟩
theorem K_ok : K_law fs := Kz_law
theorem good0 {prim : Fns} {fs : List DefS} (P : PrimH prim) (K : K_law fs) (ns : List Int) : Good (callF prim fs 12 "law" [.scr ns]) := ⟨(pure P K (by decide) ns).w⟩
theorem good (ns : List Int) : Good (callF prim fs 12 "law" [.scr ns]) := good0 prim_ok K_ok ns
end
end Fm

open PySem PySem.W PySem.Calls PyProof.Rows
theorem PySem.Challenge.cw_fortsmet_k12_whole_full_needs_and_covers_holds : PySem.Challenge.rw_fortsmet_k12_whole_full_needs_and_covers.Holds := by
  w_on; o_law
  refine HandSHeadRun.head_any (r := OpenLaw.row PySem.Challenge.rw_fortsmet_k12_whole_full_needs_and_covers) (q := view (OpenLaw.row PySem.Challenge.rw_fortsmet_k12_whole_full_needs_and_covers).prog [42]) (H := Fm.hk) (ob := Fm.ob) (M := 6000) (loose := Fm.loose) (d := HandSHeadRun.topDef (OpenLaw.row PySem.Challenge.rw_fortsmet_k12_whole_full_needs_and_covers).prog 42) (kwd := []) Fm.ob_eq
    (by kernel_rfl) (fun s => by kernel_rfl) Fm.run (by kernel_rfl) (by kernel_rfl) (by kernel_rfl) (by rfl) (by first | assumption | decide +kernel) (by decide +kernel) ⟨rfl, rfl, rfl, rfl, rfl, by decide +kernel⟩ ?hw ?hc
  case hw => w_witness2
  case hc =>
    refine L2.walk_ofE (l := PySem.Challenge.rw_fortsmet_k12_whole_full_needs_and_covers) (n := 63) (k := 25) (x := "script") (CX := L2.CX0) rfl (by decide) (by kernel_rfl) ⟨rfl, by decide, by decide⟩ ?F (fun _ _ _ _ z => z)
    intro w mg fa h Y G hmg0
    obtain ⟨K, KX, c, ce⟩ := Y
    have hmg : mg ("law" : PySem.Str) = some (.ref fa) := by
      have e : (HandSHeadRun.topDef (OpenLaw.row PySem.Challenge.rw_fortsmet_k12_whole_full_needs_and_covers).prog 42).name = ("law" : PySem.Str) := by kernel_rfl
      rw [← e]
      exact hmg0
    obtain ⟨fd, hb, hF⟩ := Fm.law_fn (P := (PySem.Challenge.rw_fortsmet_k12_whole_full_needs_and_covers).prog) (w := w) KX G c ce hmg
    exact ⟨K, fd, Fm.spF (Fm.Wof K) (Fm.callF Fm.prim Fm.fs 12) "law", KX, hb, fun H a ns hl _ hS => Fm.law_good (W := Fm.Wof K) hl hS (Fm.good ns) _, fun base _ _ => hF base⟩
