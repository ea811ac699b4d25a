import PyProof.Rows.All
import Wide.All
import OpenK.AllK
import Wide.FinOn
import PyProof.ReprReads
import HandS.Text
import HandS.ExcInit
import HandS.FStrTup
import HandS.ExcField
import HandS.FStr
import HandS.TryOnly
import HandS.HeadHook2
import KE.KSuper
import KE.KExcSuper
import KE.KExcIs
import HandS.ExcSuper
import KE.KDictDisplayH
import HandS.ForMost
import HandS.Exc
import HandS.ExcOwn
import HandS.Wide
import KE.DataMinMax
import HandS.Style
import HandS.Deep
import HandS.Flt
import HandS.Star
import HandS.TupAny
import HandS.More
import HandS.Replace
import PyProof.StrOps2
import HandS.Codes
import HandS.Spec
import HandS.Zip
import HandS.Dict
import HandS.Flow
import PyProof.MaxThree
import HandS.Comp
import HandS.NoneIn
import HandS.Small
import KE.GoesEnum
import HandS.MakeKwOnly
import HandS.SetFor
import HandS.ExcValue
import HandS.Defaults
import HandS.Ends
import HandS.Head0
import HandS.Head1
import HandS.Head2
import HandS.HeadEnd
import HandS.HeadHook1
import HandS.HeadHook4
import PySem.Challenge.RW_winbytwo_k01_errors_and_their_values
/-! Z1: data with value semantics, a small language, its evaluator. Nothing of the machine here. -/
namespace Z

inductive D where
  | non | bl (b : Bool) | int (i : Int) | str (s : List Nat)
  | tup (m : Bool) (xs : List D) | lst (m : Bool) (xs : List D)
  /-- a dict with text keys, owned -/
  | dic (ks : List (List Nat)) (xs : List D)
  /-- a caught exception: its class, its value -/
  | exc (c : Nat) (d : D)
  | obj (m : Bool) (c : Nat) (fs : List (Nat × D))
  /-- a dict whose keys are tuples of numbers, owned; its values have no parts -/
  | td (ks xs : List D)
instance : Inhabited D := ⟨.non⟩

/-- a variable: without a value, free, pinned (an object of the caller's, that may change), lent (an object of the caller's, read alone) -/
inductive Slot where
  | no | fr (d : D) | pn (d : D) | bo (d : D)
abbrev Env := List Slot
inductive Res (α : Type) where
  | ok (a : α) (e : Env)
  | xc (c : Nat) (d : D) (e : Env)
  | bad
def Res.andThen {α β : Type} (r : Res α) (k : α → Env → Res β) : Res β := match r with
  | .ok a e => k a e
  | .xc c d e => .xc c d e
  | .bad => .bad
/-- no exception here -/
def noX {α : Type} (r : Res α) : Res α := match r with
  | .ok a e => .ok a e
  | _ => .bad
def lift {α : Type} (o : Option α) (e : Env) : Res α := match o with
  | some a => .ok a e
  | none => .bad
/-- a def's end: its value, and for each parameter what the caller's object has become (if it was handed over) -/
inductive FRes where
  | ok (d : D) (io : List (Option D))
  | xc (c : Nat) (d : D) (io : List (Option D))
  | bad

/-- how a parameter comes: a value, an object handed over, an object lent -/
inductive PM where
  | val | io | bo
  deriving DecidableEq

/-! ### frozen data -/
mutual
def fzn : D → Bool
  | .tup m xs => !m && fznL xs
  | .lst m xs => !m && fznL xs
  | .dic _ _ => false
  | .obj _ _ _ => false
  | .td _ _ => false
  | .exc _ d => fzn d
  | _ => true
def fznL : List D → Bool
  | [] => true
  | x :: xs => fzn x && fznL xs
end
mutual
/-- may be frozen -/
def canF : D → Bool
  | .tup _ xs => canFL xs
  | .lst _ xs => canFL xs
  | .dic _ _ => false
  | .obj _ _ _ => false
  | .td _ _ => false
  | .exc _ d => fzn d
  | _ => true
def canFL : List D → Bool
  | [] => true
  | x :: xs => canF x && canFL xs
end
mutual
/-- may be read deeply: no exceptions in it -/
def canP : D → Bool
  | .tup _ xs => canPL xs
  | .lst _ xs => canPL xs
  | .dic _ _ => false
  | .obj _ _ _ => false
  | .td _ _ => false
  | .exc _ _ => false
  | _ => true
def canPL : List D → Bool
  | [] => true
  | x :: xs => canP x && canPL xs
end
mutual
def frz : D → D
  | .tup _ xs => .tup false (frzL xs)
  | .lst _ xs => .lst false (frzL xs)
  | d => d
def frzL : List D → List D
  | [] => []
  | x :: xs => frz x :: frzL xs
end
def frz? (d : D) : Option D := if canF d then some (frz d) else none

/-! ### operations on data -/
def sizeL : Nat := 16777216
def bits (i : Int) : Nat := i.natAbs.log2
inductive Bop where
  | add | sub | mul | fdiv | mod | pow
  deriving DecidableEq
def binop : Bop → D → D → Option D
  | .add, .int i, .int j => some (.int (i + j))
  | .add, .str a, .str b => if a.length + b.length ≤ sizeL then some (.str (a ++ b)) else none
  | .add, .lst _ xs, .lst _ ys => if fznL xs && fznL ys && decide (xs.length + ys.length ≤ sizeL) then some (.lst true (xs ++ ys)) else none
  | .sub, .int i, .int j => some (.int (i - j))
  | .mul, .int i, .int j => if bits i + bits j < 1000000 then some (.int (i * j)) else none
  | .mul, .lst m xs, .int k => if m && fznL xs && decide (-9223372036854775808 ≤ k) && decide (k < 9223372036854775808) && decide (xs.length * k.toNat ≤ sizeL) then some (.lst true (List.replicate k.toNat xs).flatten) else none
  | .mul, .str a, .int k => if decide (-9223372036854775808 ≤ k) && decide (k < 9223372036854775808) && decide (a.length * k.toNat ≤ 1000000) then some (.str (List.replicate k.toNat a).flatten) else none
  | .fdiv, .int i, .int j => if 0 < j ∧ bits j < 9000 then some (.int (i / j)) else none
  | .mod, .int i, .int j => if 0 < j then some (.int (i % j)) else none
  | .pow, .int i, .int n => if 0 ≤ n ∧ ((bits i + 1 : Nat) : Int) * n ≤ 1000000 then some (.int (i ^ n.toNat)) else none
  | _, _, _ => none

mutual
/-- == of data without dicts and objects -/
def eqB : D → D → Bool
  | .non, .non => true
  | .bl a, .bl b => a == b
  | .bl a, .int j => (if a then 1 else 0) == j
  | .int i, .bl b => i == (if b then 1 else 0)
  | .int i, .int j => i == j
  | .str x, .str y => x == y
  | .tup _ xs, .tup _ ys => eqBL xs ys
  | .lst _ xs, .lst _ ys => eqBL xs ys
  | _, _ => false
def eqBL : List D → List D → Bool
  | [], [] => true
  | x :: xs, y :: ys => eqB x y && eqBL xs ys
  | _, _ => false
end
/-- plain signs -/
def okS (s : List Nat) : Bool := s.all fun c => decide (c < 1114112)
mutual
/-- no dict, no object, not too deep, plain signs -/
def flatD : D → Nat → Bool
  | .non, _ => true
  | .bl _, _ => true
  | .int _, _ => true
  | .str s, _ => okS s
  | .tup _ xs, n => decide (0 < n) && flatDL xs (n - 1)
  | .lst _ xs, n => decide (0 < n) && flatDL xs (n - 1)
  | .dic _ _, _ => false
  | .obj _ _ _, _ => false
  | .td _ _, _ => false
  | .exc _ _, _ => false
def flatDL : List D → Nat → Bool
  | [], _ => true
  | x :: xs, n => flatD x n && flatDL xs n
end
def scalD : D → Bool
  | .non => true
  | .bl _ => true
  | .int _ => true
  | .str _ => true
  | _ => false
def items? : D → Option (List D)
  | .tup _ xs => some xs
  | .lst _ xs => some xs
  | _ => none
inductive Cop where
  | eq | ne | lt | le | gt | ge | isin | notin | isN | notN
  deriving DecidableEq
mutual
/-- what may be within a key -/
def keyOk : D → Nat → Bool
  | .non, _ => true
  | .int _, _ => true
  | .tup _ xs, n => decide (0 < n) && keyOkL xs (n - 1)
  | _, _ => false
def keyOkL : List D → Nat → Bool
  | [], _ => true
  | x :: xs, n => keyOk x n && keyOkL xs n
end
/-- a key -/
def keyT : D → Bool
  | .tup _ xs => keyOkL xs 7
  | _ => false
/-- the place of a key -/
def tdI : List D → D → Option Nat
  | [], _ => none
  | k :: ks, x => if eqB k x then some 0 else (tdI ks x).map (· + 1)
/-- d[k] = x -/
def tdSet : D → D → D → Option D
  | .td ks xs, k, x => if keyT k && fzn k && scalD x && decide (ks.length < 16777216) then some (match tdI ks k with
      | some j => .td ks (xs.set j x)
      | none => .td (ks ++ [k]) (xs ++ [x])) else none
  | _, _, _ => none
theorem tdSet_inv {d k x z : D} (e : tdSet d k x = some z) : ∃ ks xs, d = .td ks xs ∧ keyT k = true ∧ fzn k = true ∧ scalD x = true ∧ ks.length < 16777216 ∧
    z = (match tdI ks k with | some j => .td ks (xs.set j x) | none => .td (ks ++ [k]) (xs ++ [x])) := by
  unfold tdSet at e
  split at e
  · split at e
    · rename_i h
      simp only [Bool.and_eq_true, decide_eq_true_eq] at h
      exact ⟨_, _, rfl, h.1.1.1, h.1.1.2, h.1.2, h.2, (Option.some.inj e).symm⟩
    · cases e
  · cases e
/-- where b stands in a first -/
def occ (a b : List Nat) : List Nat := PySem.Builtin.Str.occurrences ⟨a.toArray⟩ ⟨b.toArray⟩ 0 a.length 1
/-- is x among xs (all without parts) -/
def memD (x : D) (xs : List D) : Bool := xs.any fun y => eqB y x
def isIn (x y : D) : Option Bool := match y with
  | .lst m xs => if scalD x && xs.all scalD then some (memD x xs) else if flatD x 50 && flatD (.lst m xs) 50 then some (xs.any fun z => eqB z x) else none
  | .tup _ xs => if scalD x && xs.all scalD then some (memD x xs) else none
  | .str z => match x with
    | .str b => some (!(occ z b).isEmpty)
    | _ => none
  | .td ks _ => if keyT x then some (tdI ks x).isSome else none
  | _ => none
def cmpop : Cop → D → D → Option Bool
  | .eq, a, b => if (scalD a && scalD b) || (flatD a 50 && flatD b 50) then some (eqB a b) else none
  | .ne, a, b => if (scalD a && scalD b) || (flatD a 50 && flatD b 50) then some (!eqB a b) else none
  | .lt, .int i, .int j => some (decide (i < j))
  | .le, .int i, .int j => some (decide (i ≤ j))
  | .gt, .int i, .int j => some (decide (j < i))
  | .ge, .int i, .int j => some (decide (j ≤ i))
  | .isin, a, b => isIn a b
  | .notin, a, b => (isIn a b).map (!·)
  | .isN, .non, .non => some true
  | .isN, _, .non => some false
  | .notN, .non, .non => some false
  | .notN, _, .non => some true
  | _, _, _ => none

/-- op= -/
def iop : Bop → D → D → Option D
  | .add, .int i, .int j => some (.int (i + j))
  | .sub, .int i, .int j => some (.int (i - j))
  | .mul, .int i, .int j => if bits i + bits j < 1000000 then some (.int (i * j)) else none
  | .add, .str a, .str b => if a.length + b.length ≤ sizeL then some (.str (a ++ b)) else none
  | _, _, _ => none
/-- the place of an index -/
def ixP (n : Nat) (i : Int) : Option Nat := if 0 ≤ i then (if i < n then some i.toNat else none) else if -(n : Int) ≤ i then some (i + n).toNat else none
/-- the place of a key -/
def keyI : List (List Nat) → List Nat → Option Nat
  | [], _ => none
  | k :: ks, s => if k = s then some 0 else (keyI ks s).map (· + 1)
def ixD (a b : D) : Option D := match a, b with
  | .dic ks xs, .str s => (keyI ks s).bind fun j => xs[j]?
  | .td ks xs, .tup m ys => if keyOkL ys 7 then (tdI ks (.tup m ys)).bind fun j => xs[j]? else none
  | .lst _ xs, .int i => (ixP xs.length i).bind fun j => xs[j]?
  | .tup _ xs, .int i => (ixP xs.length i).bind fun j => xs[j]?
  | .str s, .int i => if s.length ≤ sizeL then ((ixP s.length i).bind fun j => s[j]?).map fun c => .str [c] else none
  | _, _ => none
def slP (n d : Nat) : Option Int → Nat
  | none => d
  | some i => if i < 0 then (i + n).toNat else min i.toNat n
def cut {α : Type} (xs : List α) (lo hi : Option Int) : List α := (xs.drop (slP xs.length 0 lo)).take (slP xs.length xs.length hi - slP xs.length 0 lo)
def slD (a : D) (lo hi : Option Int) : Option D := match a with
  | .lst _ xs => if fznL xs then some (.lst true (cut xs lo hi)) else none
  | .str s => if s.length ≤ sizeL then some (.str (cut s lo hi)) else none
  | .tup m xs => if !m && fznL xs then (if slP xs.length 0 lo = 0 ∧ slP xs.length xs.length hi = xs.length then some (.tup false xs) else some (.tup true (cut xs lo hi))) else none
  | _ => none
/-- x[::-1] -/
def revD : D → Option D
  | .lst _ xs => if fznL xs then some (.lst true xs.reverse) else none
  | .tup _ xs => if fznL xs then some (.tup true xs.reverse) else none
  | _ => none

/-! ### the language -/

/-- methods of values -/
inductive Bm where
  | join | sidx | split
  deriving DecidableEq
/-- methods that change a list -/
inductive Mm where
  | insert | extend
  deriving DecidableEq
inductive Bi where
  | len | abs | min2 | max2 | toInt | toList | toTuple | repr | min1 | max1 | min3 | max3 | all1 | sum1 | toStr
  deriving DecidableEq
inductive LT where
  | nm (i : Nat) | nil | cons (a r : LT)
mutual
inductive LE where
  | c (d : D) | v (i : Nat) | mv (i : Nat) | vz (i : Nat) | bw (i : Nat) | gl (k : Nat) (d : D)
  | fz (a : LE) | rd (a : LE)
  | bin (o : Bop) (a b : LE) | neg (a : LE) | cmp (o : Cop) (a b : LE) | chn (o p : Cop) (a b c : LE)
  | an (a b : LE) | orr (a b : LE) | orv (a b : LE) | nt (a : LE) | ite (c a b : LE)
  | tup (es : LL) | lst (es : LL) | ix (a b : LE) | sl (a : LE) (lo hi : LO)
  | bi (f : Bi) (es : LL) | call (f : Nat) (es : LA) | callk (f : Nat) (es : LL) (ps : List Nat) (ks : LL)
  | app (p : LP) (a : LE) | pop (p : LP) | popi (p : LP) (a : LE)
  | lc (own : List Nat) (s : LI) (t : LT) (cd : LO) (a : LE)
  | rev (a : LE) | bm (m : Bm) (a : LE) (es : LL) | mm (m : Mm) (p : LP) (es : LL) | lss (es : LQ) | dlk (ps : List (List Nat × List Nat)) (a : LE) | fs3 (a b c : LE)
  | mkx (c : Nat) (kw : Bool) (a : LE) | isx (a : LE) (k : Nat) | isz (ks : List Nat) | xv (a : LE) | lm (cnt : Bool) (d : D) (a : LE) | dsp (ks : List (List Nat)) (es : LL) | mn4 (a b : LE) | tdd (a b : LE)
inductive LL where
  | nil | cons (a : LE) (r : LL)
inductive LQ where
  | nil | cons (a : LE) (r : LQ) | star (a : LE) (r : LQ)
inductive LA where
  | nil | e (a : LE) (r : LA) | io (i : Nat) (r : LA) | bo (i : Nat) (r : LA)
inductive LO where
  | no | so (a : LE)
inductive LI where
  | val (a : LE) | rng1 (a : LE) | rng2 (a b : LE) | enu (a : LE) | zip (a b : LE)
inductive LP where
  | s (i : Nat) | ix (p : LP) (a : LE) | fl (p : LP) (f : Nat)
end
mutual
inductive LS where
  | asg (t : LT) (a : LE) | aug (i : Nat) (o : Bop) (a : LE)
  | stl (p : LP) (lo hi a : LE)
  | st (p : LP) (k a : LE) | stk (p : LP) (k a : LE) | skA (p : LP) (k : LE) (o : Bop) (a : LE) | stA (p : LP) (k : LE) (o : Bop) (a : LE) | stt (p : LP) (k a : LE)
  | ex (a : LE) | iff (c : LE) (a b : LB) | whl (c : LE) (b : LB) | forr (t : LT) (s : LI) (b : LB)
  | ret (a : LE) | retn | brk | cnt | ps | bad
  | rse (c : Nat) (a : LE) | tryx (b : LB) (k i : Nat) (h : LB)
inductive LB where
  | nil | cons (a : LS) (r : LB)
end
inductive Fl where
  | nx | rt (d : D) | bk | ct

/-! ### what leaves the variables as they are; what is borrowed -/
mutual
def pureE : LE → Bool
  | .c _ => true | .v _ => true | .bw _ => true | .gl _ _ => true
  | .mv _ => false | .vz _ => false
  | .fz a => pureE a | .rd a => pureE a
  | .bin _ a b => pureE a && pureE b | .neg a => pureE a | .cmp _ a b => pureE a && pureE b | .chn _ _ a b c => pureE a && pureE b && pureE c
  | .an a b => pureE a && pureE b | .orr a b => pureE a && pureE b | .orv a b => pureE a && pureE b | .nt a => pureE a | .ite c a b => pureE c && pureE a && pureE b
  | .tup es => pureL es | .lst es => pureL es | .ix a b => pureE a && pureE b | .sl a lo hi => pureE a && pureO lo && pureO hi
  | .bi _ es => pureL es | .call _ es => pureA es | .callk _ es _ ks => pureL es && pureL ks
  | .app _ _ => false | .pop _ => false | .popi _ _ => false
  | .lc _ _ _ _ _ => false
  | .rev a => pureE a | .bm _ a es => pureE a && pureL es | .mm _ _ _ => false | .lss es => pureQ es | .dlk _ _ => false | .dsp _ _ => false | .mn4 _ _ => false | .tdd _ _ => false | .fs3 _ _ _ => false
  | .mkx _ _ _ => false | .isx a _ => pureE a | .isz _ => false | .xv a => pureE a | .lm _ _ a => pureE a
def pureQ : LQ → Bool
  | .nil => true
  | .cons a r => pureE a && pureQ r
  | .star a r => pureE a && pureQ r
def pureL : LL → Bool
  | .nil => true
  | .cons a r => pureE a && pureL r
def pureA : LA → Bool
  | .nil => true
  | .e a r => pureE a && pureA r
  | .io _ _ => false
  | .bo _ r => pureA r
def pureO : LO → Bool
  | .no => true
  | .so a => pureE a
end
def pureP : LP → Bool
  | .s _ => true
  | .ix p a => pureP p && pureE a
  | .fl p _ => pureP p
def isB : LE → Bool
  | .bw _ => true
  | .ix a _ => isB a
  | _ => false

/-! ### slots -/
def getS : Env → Nat → Option D
  | .fr d :: _, 0 => some d
  | .pn d :: _, 0 => some d
  | .bo d :: _, 0 => some d
  | _ :: r, n + 1 => getS r n
  | _, _ => none
/-- a free variable gets a value -/
def setS : Env → Nat → D → Option Env
  | .no :: r, 0, d => some (.fr d :: r)
  | .fr _ :: r, 0, d => some (.fr d :: r)
  | x :: r, n + 1, d => (setS r n d).map (x :: ·)
  | _, _, _ => none
/-- the value of a variable is another now (the same object) -/
def putS : Env → Nat → D → Option Env
  | .fr _ :: r, 0, d => some (.fr d :: r)
  | .pn _ :: r, 0, d => some (.pn d :: r)
  | x :: r, n + 1, d => (putS r n d).map (x :: ·)
  | _, _, _ => none
/-- a free variable loses its value -/
def clrS : Env → Nat → Option Env
  | .no :: r, 0 => some (.no :: r)
  | .fr _ :: r, 0 => some (.no :: r)
  | x :: r, n + 1 => (clrS r n).map (x :: ·)
  | _, _ => none
def clrA : Env → List Nat → Option Env
  | e, [] => some e
  | e, i :: r => (clrA e r).bind fun e' => clrS e' i

/-! ### targets -/
mutual
def tgt : LT → D → Env → Option Env
  | .nm i, d, e => setS e i d
  | .nil, d, e => match d with
    | .tup _ xs => tgts .nil xs e
    | .lst _ xs => tgts .nil xs e
    | _ => none
  | .cons a r, d, e => match d with
    | .tup _ xs => tgts (.cons a r) xs e
    | .lst _ xs => tgts (.cons a r) xs e
    | _ => none
def tgts : LT → List D → Env → Option Env
  | .nil, [], e => some e
  | .cons a r, x :: xs, e => (tgt a x e).bind fun e' => tgts r xs e'
  | _, _, _ => none
end

/-! ### built-in functions of values -/
mutual
/-- the same data in the library's words -/
def toPy : D → PySem.PyData
  | .non => .none
  | .bl b => .bool b
  | .int i => .int i
  | .str s => .str ⟨s.toArray⟩
  | .tup _ xs => .tuple (toPyL xs)
  | .lst _ xs => .list (toPyL xs)
  | .dic _ _ => .none
  | .obj _ _ _ => .none
  | .td _ _ => .none
  | .exc _ _ => .none
def toPyL : List D → List PySem.PyData
  | [] => []
  | x :: xs => toPy x :: toPyL xs
end
mutual
/-- more than the length of the text -/
def repSz : D → Nat
  | .int i => bits i + 3
  | .str s => 12 * s.length + 4
  | .tup _ xs => repSzL xs + 4
  | .lst _ xs => repSzL xs + 4
  | _ => 6
def repSzL : List D → Nat
  | [] => 0
  | x :: xs => repSz x + 2 + repSzL xs
end
mutual
/-- every number is short enough to be shown -/
def shOk : D → Bool
  | .int i => decide (bits i < 1900)
  | .tup _ xs => shOkL xs
  | .lst _ xs => shOkL xs
  | .dic _ _ => false
  | .obj _ _ _ => false
  | .td _ _ => false
  | .exc _ _ => false
  | _ => true
def shOkL : List D → Bool
  | [] => true
  | x :: xs => shOk x && shOkL xs
end
/-- repr -/
def showD (d : D) : List Nat := (toPy d).shown.cps.toList
def intsOf : List D → Option (List Int)
  | [] => some []
  | .int i :: r => (intsOf r).map (i :: ·)
  | _ => none
def blsOf : List D → Option (List Bool)
  | [] => some []
  | .bl i :: r => (blsOf r).map (i :: ·)
  | _ => none
def strsOf : List D → Option (List (List Nat))
  | [] => some []
  | .str i :: r => (strsOf r).map (i :: ·)
  | _ => none
def minI : List Int → Option Int
  | [] => none
  | i :: is => some (is.foldl min i)
def maxI : List Int → Option Int
  | [] => none
  | i :: is => some (is.foldl max i)
/-- s.join(parts) -/
def joinS (s : List Nat) : List (List Nat) → List Nat
  | [] => []
  | [p] => p
  | p :: q :: r => p ++ (s ++ joinS s (q :: r))
/-- the signs of a number -/
def strI (i : Int) : List Nat := (PySem.Str.ofString (toString i)).cps.toList
def splS (a b : List Nat) : List (List Nat) := (PySem.Txt.split ⟨a.toArray⟩ ⟨b.toArray⟩).map fun s => s.cps.toList
def bmop : Bm → D → List D → Option D
  | .split, .str a, [.str b] => if b ≠ [] ∧ a.length ≤ 10000000 then some (.lst true ((splS a b).map .str)) else none
  | .join, .str s, [.lst _ xs] => (strsOf xs).bind fun ys => if (ys.map (·.length)).sum + ys.length * s.length ≤ 16777216 then some (.str (joinS s ys)) else none
  | .sidx, .str a, [.str b] => match occ a b with
    | i :: _ => some (.int (i : Nat))
    | [] => none
  | _, _, _ => none
/-- list.count, list.index of a value without parts -/
def lmop (cnt : Bool) (d : D) : D → Option D
  | .lst _ xs => if scalD d && xs.all scalD then (if cnt then some (.int (xs.countP fun z => eqB z d : Nat)) else (xs.findIdx? fun z => eqB z d).map fun j => .int (j : Nat)) else none
  | _ => none
/-- the object of a method has the right type -/
def bmOk : Bm → D → Bool
  | _, .str _ => true
  | _, _ => false
/-- d[k] = x, the key there -/
def dicSet : D → D → D → Option D
  | .dic ks xs, .str s, x => if ks.length ≤ 100 then (keyI ks s).map fun j => .dic ks (xs.set j x) else none
  | _, _, _ => none
def dicGet : D → D → Option D
  | .dic ks xs, .str s => (keyI ks s).bind fun j => xs[j]?
  | _, _ => none
theorem dicGet_inv {d k x : D} (e : dicGet d k = some x) : ∃ ks xs s j, d = .dic ks xs ∧ k = .str s ∧ keyI ks s = some j ∧ xs[j]? = some x := by
  unfold dicGet at e
  split at e
  · rw [Option.bind_eq_some_iff] at e
    obtain ⟨j, hj, hx⟩ := e
    exact ⟨_, _, _, j, rfl, rfl, hj, hx⟩
  · cases e
theorem dicSet_inv {d k x z : D} (e : dicSet d k x = some z) : ∃ ks xs s j, d = .dic ks xs ∧ k = .str s ∧ ks.length ≤ 100 ∧ keyI ks s = some j ∧ z = .dic ks (xs.set j x) := by
  unfold dicSet at e
  split at e
  · split at e
    · rw [Option.map_eq_some_iff] at e
      obtain ⟨j, hj, rfl⟩ := e
      exact ⟨_, _, _, j, rfl, rfl, ‹_›, hj, rfl⟩
    · cases e
  · cases e
/-- d[l:h] = x -/
def stlD : D → D → D → D → Option (List D)
  | .lst true xs, .int l, .int h, .lst true ys => if 0 ≤ l ∧ l ≤ h ∧ h ≤ xs.length ∧ xs.length + ys.length ≤ sizeL then some (xs.take l.toNat ++ ys ++ xs.drop h.toNat) else none
  | _, _, _, _ => none
theorem stlD_inv {d l h x : D} {zs : List D} (e : stlD d l h x = some zs) : ∃ xs i j ys, d = .lst true xs ∧ l = .int i ∧ h = .int j ∧ x = .lst true ys ∧ (0 ≤ i ∧ i ≤ j ∧ j ≤ xs.length ∧ xs.length + ys.length ≤ sizeL) ∧ zs = xs.take i.toNat ++ ys ++ xs.drop j.toNat := by
  unfold stlD at e
  split at e
  · split at e
    · exact ⟨_, _, _, _, rfl, rfl, rfl, rfl, ‹_›, (Option.some.inj e).symm⟩
    · cases e
  · cases e
/-- what becomes of the list, and the answer -/
def mmop : Mm → List D → List D → Option (List D × D)
  | .insert, xs, [.int i, y] => if xs.length < sizeL ∧ 0 ≤ i ∧ i < 9223372036854775808 then some (xs.take i.toNat ++ [y] ++ xs.drop i.toNat, .non) else none
  | .extend, xs, [.lst true ys] => if xs.length + ys.length ≤ sizeL then some (xs ++ ys, .non) else none
  | _, _, _ => none
def biop : Bi → List D → Option D
  | .min1, [.lst _ xs] => ((intsOf xs).bind minI).map .int
  | .min1, [.tup _ xs] => ((intsOf xs).bind minI).map .int
  | .max1, [.lst _ xs] => ((intsOf xs).bind maxI).map .int
  | .max1, [.tup _ xs] => ((intsOf xs).bind maxI).map .int
  | .min3, [.int i, .int j, .int k] => some (.int (min (min i j) k))
  | .max3, [.int i, .int j, .int k] => some (.int (max (max i j) k))
  | .all1, [.lst _ xs] => (blsOf xs).map fun bs => .bl (bs.all id)
  | .sum1, [.lst _ xs] => (intsOf xs).map fun is => .int is.sum
  | .len, [.str s] => if s.length ≤ sizeL then some (.int s.length) else none
  | .len, [.lst _ xs] => some (.int xs.length)
  | .len, [.tup _ xs] => some (.int xs.length)
  | .abs, [.int i] => some (.int (if i < 0 then -i else i))
  | .min2, [.int i, .int j] => some (.int (if j < i then j else i))
  | .max2, [.int i, .int j] => some (.int (if j > i then j else i))
  | .toInt, [.int i] => some (.int i)
  | .toInt, [.bl b] => some (.int (if b then 1 else 0))
  | .toInt, [.str s] => if s.length ≤ 640 then (PySem.intText? ⟨s.toArray⟩).map .int else none
  | .toStr, [.int i] => if bits i < 1900 then some (.str (strI i)) else none
  | .toList, [.lst _ xs] => if fznL xs then some (.lst true xs) else none
  | .toList, [.tup _ xs] => if fznL xs then some (.lst true xs) else none
  | .toTuple, [.lst _ xs] => if fznL xs then some (.tup true xs) else none
  | .repr, [d] => if shOk d && flatD d 50 && decide (repSz d ≤ 10000000) then some (.str (showD d)) else none
  | _, _ => none

/-- a part of an f-string -/
def fmtD : D → Option (List Nat)
  | .str s => if s.length ≤ 1000000 then some s else none
  | .int i => if bits i < 1900 ∧ (strI i).length ≤ 1000000 then some (strI i) else none
  | _ => none
/-- the truth of a value without parts -/
def truD : D → Option Bool
  | .non => some false
  | .bl b => some b
  | .int i => some (i != 0)
  | .str s => if s.length ≤ sizeL then some ((s.length : Int) != 0) else none
  | _ => none
/-- a pair of numbers -/
def prD : D → Option (Int × Int)
  | .tup _ [.int a, .int b] => some (a, b)
  | _ => none
/-- the value of an exception: its text is to be had -/
def fmtX : D → Bool
  | .str s => okS s && decide (s.length ≤ 1000000)
  | .int i => decide (bits i < 1900) && decide ((strI i).length ≤ 1000000)
  | .non => true
  | .tup m [.int i, .int j] => !m && decide (bits i < 1900) && decide ((strI i).length ≤ 1000000) && decide (bits j < 1900) && decide ((strI j).length ≤ 1000000)
  | _ => false
/-- the class c is the class k, or below it -/
def subX (c k : Nat) : Bool := k == 100 || k == 0 || c == k
/-- {k: v, ..}[x], all of them texts -/
def lkS : List (List Nat × List Nat) → List Nat → Option (List Nat) → Option (List Nat)
  | [], _, r => r
  | p :: ps, k, r => lkS ps k (if p.1 = k then some p.2 else r)
def dlkD (ps : List (List Nat × List Nat)) : D → Option D
  | .str k => (lkS ps k none).map .str
  | _ => none
/-- the items behind a star -/
def starI : D → Option (List D)
  | .lst _ xs => if fznL xs then some xs else none
  | .tup _ xs => if fznL xs then some xs else none
  | _ => none
/-! ### the evaluator: phi answers for the defs, wf is the fuel of a while -/
/-- what a loop walks: the data that come, from the left -/
def itemsOf (d : D) : Option (List D) := match frz? d with
  | some (.lst _ xs) => some xs
  | some (.tup _ xs) => some xs
  | some (.str s) => some (s.map fun c => .str [c])
  | _ => none
def rngI (lo hi : Int) : Option (List D) := if -(2 ^ 62) ≤ lo ∧ lo < 2 ^ 62 ∧ -(2 ^ 62) ≤ hi ∧ hi < 2 ^ 62 then some ((List.range (hi - lo).toNat).map fun k => .int (lo + (k : Nat))) else none
def enumI (xs : List D) : List D := (List.range xs.length).zipWith (fun i x => .tup true [.int (i : Nat), x]) xs
def lstOf (d : D) : Option (List D) := match frz? d with
  | some (.lst _ xs) => some xs
  | _ => none
/-- what enumerate goes along -/
def enuOf (d : D) : Option (List D) := match frz? d with
  | some (.lst _ xs) => some xs
  | some (.str s) => some (s.map fun c => .str [c])
  | _ => none
def zipI (xs ys : List D) : List D := List.zipWith (fun x y => .tup true [x, y]) xs ys
def zipO (x y : D) : Option (List D) := match frz? x, frz? y with
  | some (.lst _ xs), some (.lst _ ys) => some (zipI xs ys)
  | some (.tup _ xs), some (.tup _ ys) => some (zipI xs ys)
  | some (.lst _ xs), some (.tup _ ys) => some (zipI xs ys)
  | _, _ => none

/-- a place in a variable's value: the variable, and how to get on -/
inductive Stp where
  | at (j : Nat) | fl (f : Nat)
def subD : D → List Stp → Option D
  | d, [] => some d
  | .lst m xs, .at j :: r => if m then (xs[j]?).bind fun x => subD x r else none
  | .tup m xs, .at j :: r => if m then (xs[j]?).bind fun x => subD x r else none
  | .obj m _ fs, .fl f :: r => if m then (fs.lookup f).bind fun x => subD x r else none
  | .dic _ xs, .at j :: r => (xs[j]?).bind fun x => subD x r
  | _, _ => none
def repF (f : Nat) (y : D) : List (Nat × D) → List (Nat × D)
  | [] => []
  | (g, x) :: r => if g = f then (g, y) :: r else (g, x) :: repF f y r
def updD : D → List Stp → D → Option D
  | _, [], y => some y
  | .lst m xs, .at j :: r, y => if m then (xs[j]?).bind fun x => (updD x r y).map fun z => .lst true (xs.set j z) else none
  | .tup m xs, .at j :: r, y => if m then (xs[j]?).bind fun x => (updD x r y).map fun z => .tup true (xs.set j z) else none
  | .obj m c fs, .fl f :: r, y => if m then (fs.lookup f).bind fun x => (updD x r y).map fun z => .obj true c (repF f z fs) else none
  | .dic ks xs, .at j :: r, y => (xs[j]?).bind fun x => (updD x r y).map fun z => .dic ks (xs.set j z)
  | _, _, _ => none
/-- the parts of what is owned -/
def itemsT? : D → Option (List D)
  | .lst m xs => if m then some xs else none
  | .tup m xs => if m then some xs else none
  | _ => none
/-- the value at a place of a variable is another now -/
def putP (e : Env) (i : Nat) (p : List Stp) (y : D) : Option Env := (getS e i).bind fun d => (updD d p y).bind fun z => putS e i z
def getP (e : Env) (i : Nat) (p : List Stp) : Option D := (getS e i).bind fun d => subD d p

section
variable (phi : Nat → List PM → List D → FRes) (wf : Nat)
def loopF (body : D → Env → Res Fl) : List D → Env → Res Fl
  | [], e => .ok .nx e
  | x :: xs, e => (body x e).andThen fun f e1 => match f with
    | .nx => loopF body xs e1
    | .ct => loopF body xs e1
    | .bk => .ok .nx e1
    | .rt d => .ok (.rt d) e1
def loopC (body : D → Env → Res (Option D)) : List D → Env → Res (List D)
  | [], e => .ok [] e
  | x :: xs, e => (body x e).andThen fun y e1 => (loopC body xs e1).andThen fun ys e2 => match y with
    | some z => .ok (z :: ys) e2
    | none => .ok ys e2
def whileR (c : Env → Res D) (body : Env → Res Fl) : Nat → Env → Res Fl
  | 0, _ => .bad
  | n + 1, e => (c e).andThen fun b e1 => match b with
    | .bl false => .ok .nx e1
    | .bl true => (body e1).andThen fun f e2 => match f with
      | .nx => whileR c body n e2
      | .ct => whileR c body n e2
      | .bk => .ok .nx e2
      | .rt d => .ok (.rt d) e2
    | _ => .bad
def ioArgs : LA → List D → Env → Option (List D)
  | .nil, [], _ => some []
  | .e _ r, x :: xs, e => (ioArgs r xs e).map (x :: ·)
  | .io i r, xs, e => (getS e i).bind fun d => (ioArgs r xs e).map (d :: ·)
  | .bo i r, xs, e => (getS e i).bind fun d => (ioArgs r xs e).map (d :: ·)
  | _, _, _ => none
def ioIx : LA → List Nat
  | .nil => []
  | .e _ r => ioIx r
  | .io i r => i :: ioIx r
  | .bo _ r => ioIx r
def boIx : LA → List Nat
  | .nil => []
  | .e _ r => boIx r
  | .io _ r => boIx r
  | .bo i r => i :: boIx r
def tags : LA → List PM
  | .nil => []
  | .e _ r => .val :: tags r
  | .io _ r => .io :: tags r
  | .bo _ r => .bo :: tags r
/-- the object that was handed over comes back (at most one is) -/
def backS (is : List Nat) (os : List (Option D)) (e : Env) : Option Env := match is with
  | [] => some e
  | [i] => match os.filterMap id with
    | [d] => putS e i d
    | _ => none
  | _ => none
def runCall (f : Nat) (es : LA) (xs : List D) (e : Env) : Res D := match ioArgs es xs e with
  | none => .bad
  | some ds => if (ioIx es).length ≤ 1 ∧ (∀ i ∈ boIx es, i ∉ ioIx es) then match phi f (tags es) ds with
    | .ok d os => (lift (backS (ioIx es) os e) e).andThen fun e' _ => .ok d e'
    | .xc c d os => (lift (backS (ioIx es) os e) e).andThen fun e' _ => .xc c d e'
    | .bad => .bad else .bad

def lenL : LL → Nat
  | .nil => 0
  | .cons _ r => lenL r + 1
/-- the places pm of l, in this order -/
def pick {α : Type} (d : α) (pm : List Nat) (l : List α) : List α := pm.map fun j => l.getD j d
mutual
def evE : LE → Env → Res D
  | .c d, e => if scalD d then .ok d e else .bad
  | .v i, e => (lift (getS e i) e).andThen fun d e => if fzn d then .ok d e else .bad
  | .mv i, e => (lift (getS e i) e).andThen fun d e => (lift (clrS e i) e).andThen fun e' _ => .ok d e'
  | .vz i, e => (lift (getS e i) e).andThen fun d e => (lift (frz? d) e).andThen fun z e => (lift (setS e i z) e).andThen fun e' _ => .ok z e'
  | .bw i, e => lift (getS e i) e
  | .gl _ d, e => .ok d e
  | .fz a, e => (evE a e).andThen fun x e => lift (frz? x) e
  | .rd a, e => (evE a e).andThen fun x e => if fzn x then .ok x e else .bad
  | .bin o a b, e => (evE a e).andThen fun x e => (evE b e).andThen fun y e => lift (binop o x y) e
  | .neg a, e => (evE a e).andThen fun x e => match x with
    | .int i => .ok (.int (-i)) e
    | _ => .bad
  | .cmp o a b, e => (evE a e).andThen fun x e => (evE b e).andThen fun y e => (lift (cmpop o x y) e).andThen fun r e => .ok (.bl r) e
  | .chn o p a b c, e => (evE a e).andThen fun x e => (evE b e).andThen fun y e => (lift (cmpop o x y) e).andThen fun r e =>
      if r then (evE c e).andThen fun z e => (lift (cmpop p y z) e).andThen fun r e => .ok (.bl r) e else .ok (.bl false) e
  | .an a b, e => (evE a e).andThen fun x e => match x with
    | .bl true => evE b e
    | .bl false => .ok (.bl false) e
    | _ => .bad
  | .orr a b, e => (evE a e).andThen fun x e => match x with
    | .bl true => .ok (.bl true) e
    | .bl false => evE b e
    | _ => .bad
  | .orv a b, e => (evE a e).andThen fun x e => match truD x with
    | some true => .ok x e
    | some false => evE b e
    | none => .bad
  | .nt a, e => (evE a e).andThen fun x e => match x with
    | .bl b => .ok (.bl (!b)) e
    | _ => .bad
  | .ite c a b, e => (evE c e).andThen fun x e => match x with
    | .bl true => evE a e
    | .bl false => evE b e
    | _ => .bad
  | .tup es, e => (evL es e).andThen fun xs e => if xs.length ≤ sizeL then .ok (.tup true xs) e else .bad
  | .lst es, e => (evL es e).andThen fun xs e => if xs.length ≤ sizeL then .ok (.lst true xs) e else .bad
  | .ix a b, e => (evE a e).andThen fun x e => (evE b e).andThen fun y e => lift (ixD x y) e
  | .sl a lo hi, e => (evE a e).andThen fun x e => (evO lo e).andThen fun l e => (evO hi e).andThen fun h e => lift (slD x l h) e
  | .bi f es, e => (evL es e).andThen fun xs e => lift (biop f xs) e
  | .call f es, e => (evA es e).andThen fun xs e => runCall phi f es xs e
  | .callk f es ps ks, e => (evL es e).andThen fun xs e => (evL ks e).andThen fun ys e =>
      if fznL xs && fznL ys && ps.all (fun j => decide (j < (xs ++ ys).length)) && decide (xs.length = lenL es) && decide (ys.length = lenL ks) then match phi f (ps.map fun _ => .val) (pick .non ps (xs ++ ys)) with
        | .ok d _ => .ok d e
        | .xc c d _ => .xc c d e
        | .bad => .bad
      else .bad
  | .app p a, e => (evP p e).andThen fun q e => (lift (getP e q.1 q.2) e).andThen fun d e => match d with
    | .lst true _ => (evE a e).andThen fun x e => (lift (getP e q.1 q.2) e).andThen fun d e => match d with
      | .lst true xs => if xs.length < sizeL then (lift (putP e q.1 q.2 (.lst true (xs ++ [x]))) e).andThen fun e' _ => .ok .non e' else .bad
      | _ => .bad
    | _ => .bad
  | .pop p, e => (evP p e).andThen fun q e => (lift (getP e q.1 q.2) e).andThen fun d e => match d with
    | .lst true xs => (lift xs.getLast? e).andThen fun x e => (lift (putP e q.1 q.2 (.lst true xs.dropLast)) e).andThen fun e' _ => .ok x e'
    | _ => .bad
  | .popi p a, e => (evP p e).andThen fun q e => (lift (getP e q.1 q.2) e).andThen fun d e => match d with
    | .lst true xs => (evE a e).andThen fun k e => match k with
      | .int k => if xs.length ≤ sizeL then (lift (ixP xs.length k) e).andThen fun j e => (lift xs[j]? e).andThen fun x e => (lift (putP e q.1 q.2 (.lst true (xs.eraseIdx j))) e).andThen fun e' _ => .ok x e' else .bad
      | _ => .bad
    | _ => .bad
  | .lc own s t cd a, e => (evI s e).andThen fun xs e => if xs.length ≤ sizeL then (lift (clrA e own) e).andThen fun e _ =>
      (loopC (fun x e => noX ((lift (tgt t x e) e).andThen fun e _ => (evC cd e).andThen fun b e => if b then (evE a e).andThen fun y e => (lift (clrA e own) e).andThen fun e _ => .ok (some y) e
        else (lift (clrA e own) e).andThen fun e _ => .ok none e)) xs e).andThen fun ys e => .ok (.lst true ys) e else .bad
  | .rev a, e => (evE a e).andThen fun x e => lift (revD x) e
  | .dlk ps a, e => (evE a e).andThen fun x e => lift (dlkD ps x) e
  | .mn4 a b, e => (evE a e).andThen fun x e => (lift (prD x) e).andThen fun p e => (evE b e).andThen fun y e => (lift (prD y) e).andThen fun q e => .ok (.int (min (min (min p.1 p.2) q.1) q.2)) e
  | .dsp ks es, e => (evL es e).andThen fun xs e => if (decide (ks.length = xs.length) && decide ks.Nodup && decide (ks ≠ []) && decide (ks.length ≤ 15)) = true then .ok (.dic ks xs) e else .bad
  | .tdd a b, e => (evE a e).andThen fun x e => (evE b e).andThen fun y e => if keyT x && fzn x && scalD y then .ok (.td [x] [y]) e else .bad
  | .fs3 a b c, e => (evE a e).andThen fun x e => (lift (fmtD x) e).andThen fun s1 e => (evE b e).andThen fun y e => (lift (fmtD y) e).andThen fun s2 e => (evE c e).andThen fun z e => (lift (fmtD z) e).andThen fun s3 e => .ok (.str (s1 ++ (s2 ++ s3))) e
  | .mkx c _ a, e => (evE a e).andThen fun x e => if fmtX x then .ok (.exc c x) e else .bad
  | .isz ks, e => if ks.all (fun k => decide (k ≠ 0)) then .ok (.bl false) e else .bad
  | .isx a k, e => (evE a e).andThen fun x e => match x with
    | .exc c _ => .ok (.bl (subX c k)) e
    | _ => .bad
  | .lm cnt d a, e => (evE a e).andThen fun x e => lift (lmop cnt d x) e
  | .xv a, e => (evE a e).andThen fun x e => match x with
    | .exc _ d => .ok d e
    | _ => .bad
  | .bm m a es, e => (evE a e).andThen fun x e => if bmOk m x then (evL es e).andThen fun ys e => lift (bmop m x ys) e else .bad
  | .mm m p es, e => (evP p e).andThen fun q e => (lift (getP e q.1 q.2) e).andThen fun d e => match d with
    | .lst true _ => (evL es e).andThen fun ys e => (lift (getP e q.1 q.2) e).andThen fun d e => match d with
      | .lst true xs => (lift (mmop m xs ys) e).andThen fun r e => (lift (putP e q.1 q.2 (.lst true r.1)) e).andThen fun e' _ => .ok r.2 e'
      | _ => .bad
    | _ => .bad
  | .lss es, e => (evQ es e).andThen fun xs e => if xs.length ≤ sizeL then .ok (.lst true xs) e else .bad
def evQ : LQ → Env → Res (List D)
  | .nil, e => .ok [] e
  | .cons a r, e => (evE a e).andThen fun x e => (evQ r e).andThen fun xs e => .ok (x :: xs) e
  | .star a r, e => (evE a e).andThen fun x e => (lift (starI x) e).andThen fun ys e => (evQ r e).andThen fun xs e => .ok (ys ++ xs) e
def evC : LO → Env → Res Bool
  | .no, e => .ok true e
  | .so a, e => (evE a e).andThen fun x e => match x with
    | .bl b => .ok b e
    | _ => .bad
def evL : LL → Env → Res (List D)
  | .nil, e => .ok [] e
  | .cons a r, e => (evE a e).andThen fun x e => (evL r e).andThen fun xs e => .ok (x :: xs) e
def evA : LA → Env → Res (List D)
  | .nil, e => .ok [] e
  | .e a r, e => (evE a e).andThen fun x e => (evA r e).andThen fun xs e => .ok (x :: xs) e
  | .io i r, e => (lift (getS e i) e).andThen fun _ e => evA r e
  | .bo i r, e => (lift (getS e i) e).andThen fun _ e => evA r e
def evO : LO → Env → Res (Option Int)
  | .no, e => .ok none e
  | .so a, e => (evE a e).andThen fun x e => match x with
    | .int i => .ok (some i) e
    | _ => .bad
def evI : LI → Env → Res (List D)
  | .val a, e => (evE a e).andThen fun x e => lift (itemsOf x) e
  | .rng1 a, e => (evE a e).andThen fun x e => match x with
    | .int n => lift (rngI 0 n) e
    | _ => .bad
  | .rng2 a b, e => (evE a e).andThen fun x e => (evE b e).andThen fun y e => match x, y with
    | .int m, .int n => lift (rngI m n) e
    | _, _ => .bad
  | .enu a, e => (evE a e).andThen fun x e => (lift (enuOf x) e).andThen fun xs e => .ok (enumI xs) e
  | .zip a b, e => (evE a e).andThen fun x e => (evE b e).andThen fun y e => lift (zipO x y) e
def evP : LP → Env → Res (Nat × List Stp)
  | .s i, e => (lift (getS e i) e).andThen fun _ e => .ok (i, []) e
  | .ix p a, e => (evP p e).andThen fun q e => (evE a e).andThen fun k e => (lift (getP e q.1 q.2) e).andThen fun d e => match itemsT? d, k with
    | some xs, .int k => (lift (ixP xs.length k) e).andThen fun j e => if j < xs.length then .ok (q.1, q.2 ++ [.at j]) e else .bad
    | none, .str s => (match d with
      | .dic ks xs => (lift (keyI ks s) e).andThen fun j e => if j < xs.length then .ok (q.1, q.2 ++ [.at j]) e else .bad
      | _ => .bad)
    | _, _ => .bad
  | .fl p f, e => (evP p e).andThen fun q e => .ok (q.1, q.2 ++ [.fl f]) e
end

mutual
def evS : LS → Env → Res Fl
  | .asg t a, e => (evE phi a e).andThen fun x e => (lift (tgt t x e) e).andThen fun e _ => .ok .nx e
  | .aug i o a, e => (lift (getS e i) e).andThen fun x e => if scalD x then (evE phi a e).andThen fun y e => (lift (iop o x y) e).andThen fun z e => (lift (setS e i z) e).andThen fun e _ => .ok .nx e else .bad
  | .st p k a, e => (evE phi a e).andThen fun x e => (evP phi p e).andThen fun q e => (evE phi k e).andThen fun k e => (lift (getP e q.1 q.2) e).andThen fun d e => match d, k with
    | .lst true xs, .int k => (lift (ixP xs.length k) e).andThen fun j e => (lift (putP e q.1 q.2 (.lst true (xs.set j x))) e).andThen fun e _ => .ok .nx e
    | _, _ => .bad
  | .stA p k o a, e => (evP phi p e).andThen fun q e => (evE phi k e).andThen fun k e => (lift (getP e q.1 q.2) e).andThen fun d e => match d, k with
    | .lst true xs, .int k => (lift (ixP xs.length k) e).andThen fun j e => (lift xs[j]? e).andThen fun x e => if scalD x then (evE phi a e).andThen fun y e => (lift (iop o x y) e).andThen fun z e =>
        (lift (putP e q.1 q.2 (.lst true (xs.set j z))) e).andThen fun e _ => .ok .nx e else .bad
    | _, _ => .bad
  | .skA p k o a, e => (evP phi p e).andThen fun q e => (evE phi k e).andThen fun k e => (lift (getP e q.1 q.2) e).andThen fun d e => (lift (dicGet d k) e).andThen fun x e => if scalD x then (evE phi a e).andThen fun y e => (lift (iop o x y) e).andThen fun z e =>
      (lift (dicSet d k z) e).andThen fun w e => (lift (putP e q.1 q.2 w) e).andThen fun e _ => .ok .nx e else .bad
  | .stk p k a, e => (evE phi a e).andThen fun x e => (evP phi p e).andThen fun q e => (evE phi k e).andThen fun k e => (lift (getP e q.1 q.2) e).andThen fun d e => (lift (dicSet d k x) e).andThen fun z e => (lift (putP e q.1 q.2 z) e).andThen fun e _ => .ok .nx e
  | .stt p k a, e => (evE phi a e).andThen fun x e => (evP phi p e).andThen fun q e => (evE phi k e).andThen fun k e => (lift (getP e q.1 q.2) e).andThen fun d e => (lift (tdSet d k x) e).andThen fun z e => (lift (putP e q.1 q.2 z) e).andThen fun e _ => .ok .nx e
  | .stl p lo hi a, e => (evE phi a e).andThen fun x e => (evP phi p e).andThen fun q e => (evE phi lo e).andThen fun l e => (evE phi hi e).andThen fun h e => (lift (getP e q.1 q.2) e).andThen fun d e => (lift (stlD d l h x) e).andThen fun zs e => (lift (putP e q.1 q.2 (.lst true zs)) e).andThen fun e _ => .ok .nx e
  | .ex a, e => (evE phi a e).andThen fun _ e => .ok .nx e
  | .iff c a b, e => (evE phi c e).andThen fun x e => match x with
    | .bl true => evB a e
    | .bl false => evB b e
    | _ => .bad
  | .whl c b, e => whileR (evE phi c) (evB b) wf e
  | .forr t s b, e => (evI phi s e).andThen fun xs e => loopF (fun x e => (lift (tgt t x e) e).andThen fun e _ => evB b e) xs e
  | .ret a, e => (evE phi a e).andThen fun x e => .ok (.rt x) e
  | .retn, e => .ok (.rt .non) e
  | .brk, e => .ok .bk e
  | .cnt, e => .ok .ct e
  | .ps, e => .ok .nx e
  | .rse c a, e => (evE phi a e).andThen fun x e => if fmtX x then .xc c x e else .bad
  | .tryx b k i h, e => match evB b e with
    | .ok f e => .ok f e
    | .bad => .bad
    | .xc c d e => if subX c k then (lift (setS e i (.exc c d)) e).andThen fun e _ => (noX (evB h e)).andThen fun f e => (lift (clrS e i) e).andThen fun e _ => .ok f e else .xc c d e
  | .bad, _ => .bad
def evB : LB → Env → Res Fl
  | .nil, e => .ok .nx e
  | .cons a r, e => (evS a e).andThen fun f e => match f with
    | .nx => evB r e
    | f => .ok f e
end
end

/-! ### defs -/
/-- a def: how its parameters come, how many names, the body -/
structure Fn where
  io : List PM
  n : Nat
  b : LB
def env0 : List PM → List D → Option Env
  | [], [] => some []
  | .io :: r, d :: ds => (env0 r ds).map (.pn d :: ·)
  | .bo :: r, d :: ds => (env0 r ds).map (.bo d :: ·)
  | .val :: r, d :: ds => (env0 r ds).map (.fr d :: ·)
  | _, _ => none
def outs : List PM → Env → Option (List (Option D))
  | [], _ => some []
  | .io :: r, .pn d :: e => (outs r e).map (some d :: ·)
  | .bo :: r, _ :: e => (outs r e).map (none :: ·)
  | .val :: r, _ :: e => (outs r e).map (none :: ·)
  | _, _ => none
def endF (io : List PM) (r : Res Fl) : FRes := match r with
  | .ok f e => match outs io e with
    | none => .bad
    | some os => match f with
      | .nx => .ok .non os
      | .rt d => .ok d os
      | _ => .bad
  | .xc c d e => match outs io e with
    | none => .bad
    | some os => .xc c d os
  | .bad => .bad
def runF (phi : Nat → List PM → List D → FRes) (wf : Nat) (F : Fn) (ms : List PM) (ds : List D) : FRes := if ms = F.io then match env0 F.io ds with
  | none => .bad
  | some e => endF F.io (evB phi wf F.b (e ++ List.replicate (F.n - F.io.length) .no)) else .bad
/-- the program's defs, n calls deep -/
def run (tbl : Nat → Option Fn) (wf : Nat) : Nat → Nat → List PM → List D → FRes
  | 0, _, _, _ => .bad
  | n + 1, f, ms, ds => match tbl f with
    | none => .bad
    | some F => runF (run tbl wf n) wf F ms ds
end Z

set_option Elab.async false
set_option linter.all false
set_option maxRecDepth 100000
set_option maxHeartbeats 4000000
/-! ZX1: the program's exception classes: super().__init__(f'..') in a class over another own one. -/
namespace Z
open PySem PySem.Spec L2 PyProof.Rows

/-- the classes by numbers -/
def clsNm : Nat → Str
  | 0 => "MatchError"
  | 1 => "InvalidRace"
  | 2 => "InvalidPoints"
  | 3 => "InvalidScore"
  | 4 => "InvalidSide"
  | 5 => "InvalidNumber"
  | 6 => "MatchOver"
  | 7 => "NothingToUndo"
  | _ => "Unreadable"
def caK (K : PySem.W.Frag) (c : Nat) : Addr := He.ga K (clsNm c)

/-! ### the text of an exception -/
/-- what may be formatted -/
def FmtV (K : PySem.W.Frag) (H : Hp) (v : V) : Prop := (∃ y : Str, v = .str y ∧ y.length ≤ 1000000 ∧ (reprText y).length ≤ 12000000) ∨ (∃ i : Int, v = .int i ∧ i.natAbs.log2 < 1900 ∧ (Str.ofString (toString i)).length ≤ 1000000) ∨ v = .non ∨
  ∃ (a : Addr) (i j : Int), v = .ref a ∧ SqT K H a [.int i, .int j] ∧ (i.natAbs.log2 < 1900 ∧ (Str.ofString (toString i)).length ≤ 1000000) ∧ j.natAbs.log2 < 1900 ∧ (Str.ofString (toString j)).length ≤ 1000000
theorem FmtV.new {K : PySem.W.Frag} {H : Hp} {v : V} {a : Addr} {o : HO} (f : FmtV K H v) (n : H a = none) : FmtV K (upd H a o) v := by
  have rd : ∀ {b : Addr} {u : HO}, Rd H b u → Rd (upd H a o) b u := fun {b u} r => by
    have nb : ∀ q : HO, H b = some q → b ≠ a := fun q h z => by rw [z, n] at h; cases h
    rcases r with r | ⟨q, r⟩
    · exact .inl (by rw [upd_ne (nb _ r)]; exact r)
    · exact .inr ⟨q, by rw [upd_ne (nb _ r)]; exact r⟩
  rcases f with f | f | f | ⟨b, i, j, e, q, z⟩
  · exact .inl f
  · exact .inr (.inl f)
  · exact .inr (.inr (.inl f))
  · refine .inr (.inr (.inr ⟨b, i, j, e, ?_, z⟩))
    rcases q with q | q
    · exact .inl (rd q)
    · exact .inr q
def sSelf : Str := "self"
def sValue : Str := "value"
def sSuper : Str := "super"
def sClass : Str := "__class__"
def sInit : Str := "__init__"
def okArg : Expr → Bool
  | .Constant (.str x) _ _ => decide (x.length ≤ 1000)
  | .JoinedStr [.Constant (.str x) _ _, .FormattedValue (.Name v _) m none _] _ => decide (x.length ≤ 1000) && decide (v = sValue) && (decide (m = -1) || decide (m = 114))
  | .JoinedStr [.Constant (.str x) _ _, .FormattedValue (.Name v _) m none _, .Constant (.str z) _ _] _ => decide (x.length ≤ 1000) && decide (v = sValue) && (decide (m = -1) || decide (m = 114)) && decide (z.length ≤ 1000)
  | _ => false
theorem str_app_len (a b : Str) : (a ++ b).length = a.length + b.length := by
  show (Str.append a b).cps.size = _
  unfold Str.append
  simp [Str.length]
section
variable {X : Cx}
/-- {x}, {x!r}: some text -/
def tFmtX (K : PySem.W.Frag) (te : TE) : TE := fun σ H Q => te σ H fun x H1 => FmtV K H1 x ∧ ∀ y : Str, y.length ≤ 12000000 → Q (.str y) H1
theorem pair_text {i j : Int} (h1 : (Str.ofString (toString i)).length ≤ 1000000) (h2 : (Str.ofString (toString j)).length ≤ 1000000) : (tupleText [Str.ofString (toString i), Str.ofString (toString j)]).length ≤ 2000010 := by
  have := fmt_text [Str.ofString (toString i), Str.ofString (toString j)]
  rw [piled_cons, piled_cons, piled_nil] at this
  omega
theorem pair_repr {prog : Program} {w : World} {i j : Int} {its : List Value} (r : Vals [V.int i, V.int j] its) (h1 : i.natAbs.log2 < 1900) (h2 : j.natAbs.log2 < 1900) : ReprAll prog w its [Str.ofString (toString i), Str.ofString (toString j)] := by
  cases r with
  | cons r1 r =>
    cases r with
    | cons r2 r =>
      cases r
      obtain ⟨t1, rfl⟩ := r1
      obtain ⟨t2, rfl⟩ := r2
      exact .cons (ReprIs.int t1 (by omega)) (.cons (ReprIs.int t2 (by omega)) .nil)
theorem pe_fmtX {e : Expr} {te : TE} {pos : Pos} (hu : X.A.units + 50 < cLine) (he : PE X e te) : PE X (.FormattedValue e (-1) none pos) (tFmtX X.K te) := by
  refine ⟨fun pins s σ H Q I h => wpAny_FormattedValue_plain (thn (he.run pins s σ H _ I h) fun v s1 ⟨x, H1, I1, r1, q, k⟩ => ?_)⟩
  rcases q with ⟨y, rfl, h1, h2⟩ | ⟨i, rfl, h1, h2⟩ | rfl | ⟨a, i, j, rfl, sq, ⟨h1, h2⟩, h3, h4⟩
  · obtain ⟨t, rfl⟩ := r1
    exact wpAny_formatField_str ⟨.str y, H1, I1, ⟨t, rfl⟩, k _ (by omega)⟩ ⟨.str y, H1, I1.tok _, ⟨_, rfl⟩, k _ (by omega)⟩ (by rw [sizeLine_eq]; omega)
  · obtain ⟨t, rfl⟩ := r1
    exact wpAny_formatField_int (by omega) ⟨.str (toString i), H1, I1.tok _, ⟨_, rfl⟩, k _ (by have h2' : (Str.ofString (toString i)).length ≤ 1000000 := h2; show (Str.ofString (toString i)).length ≤ _; omega)⟩
  · obtain rfl : v = Value.none := r1
    exact wpAny_formatField_none ⟨.str "None", H1, I1.tok _, ⟨_, rfl⟩, k _ (by decide +kernel)⟩
  · obtain rfl : v = Value.ref a := r1
    obtain ⟨its, rv, ⟨o, ho, hcl, n, hd⟩, _⟩ := I1.tuple sq
    have pt := pair_text h2 h4
    exact fmt_tuple (by omega) ho hcl hd (pair_repr rv h1 h3) (by rw [sizeLine_eq]; omega) fun m u tk hm => ⟨.str m, H1, I1.tok _, ⟨u, rfl⟩, k m (by omega)⟩
theorem pe_fmtXR {e : Expr} {te : TE} {pos : Pos} (hu : X.A.units + 50 < cLine) (he : PE X e te) : PE X (.FormattedValue e 114 none pos) (tFmtX X.K te) := by
  refine ⟨fun pins s σ H Q I h => wpAny_FormattedValue_repr (thn (he.run pins s σ H _ I h) fun v s1 ⟨x, H1, I1, r1, q, k⟩ => ?_)⟩
  rcases q with ⟨y, rfl, h1, h2⟩ | ⟨i, rfl, h1, h2⟩ | rfl | ⟨a, i, j, rfl, sq, ⟨h1, h2⟩, h3, h4⟩
  · obtain ⟨t, rfl⟩ := r1
    have hz : (reprText y).length ≤ sizeLine := by rw [sizeLine_eq]; omega
    exact pyReprObj_str (wpAny_formatField_str ⟨.str (reprText y), H1, I1.tok _, ⟨_, rfl⟩, k _ h2⟩ ⟨.str (reprText y), H1, I1.tok _, ⟨_, rfl⟩, k _ h2⟩ hz) hz
  · obtain ⟨t, rfl⟩ := r1
    have hk : (Str.ofString (toString i)).length ≤ 12000000 := by omega
    exact pyReprObj_int (by omega) (wpAny_formatField_str ⟨.str (toString i), H1, I1.tok _, ⟨_, rfl⟩, k _ hk⟩ ⟨.str (toString i), H1, I1.tok _, ⟨_, rfl⟩, k _ hk⟩ (int_text_fits (by omega)))
  · obtain rfl : v = Value.none := r1
    exact pyReprObj_none (wpAny_formatField_str ⟨.str "None", H1, I1.tok _, ⟨_, rfl⟩, k _ (by decide +kernel)⟩ ⟨.str "None", H1, I1.tok _, ⟨_, rfl⟩, k _ (by decide +kernel)⟩ (by decide +kernel))
  · obtain rfl : v = Value.ref a := r1
    obtain ⟨its, rv, ⟨o, ho, hcl, n, hd⟩, _⟩ := I1.tuple sq
    have pt := pair_text h2 h4
    exact wpAny_pyReprObj_slot (by omega) ⟨o, ho, hcl⟩ F.slot_tuple_repr (fmt_tuple_repr ho hcl hd (pair_repr rv h1 h3) (by rw [sizeLine_eq]; omega) fun m u tk hm => ⟨m, u, rfl,
      wpAny_formatField_str ⟨.str m, H1, I1.tok _, ⟨_, rfl⟩, k m (by omega)⟩ ⟨.str m, H1, I1.tok _, ⟨_, rfl⟩, k m (by omega)⟩ (by rw [sizeLine_eq]; omega)⟩)
theorem fv_ok {v : Str} {q p : Pos} {m : Int} (hu : X.A.units + 50 < cLine) (hN : X.N = [sSelf, sValue]) (hv : X.env.scope.names.lookup sValue = some .local) (h : v = sValue) (hm : m = -1 ∨ m = 114) :
    ∃ t, PE X (.FormattedValue (.Name v q) m none p) t ∧ ∀ σ H (Q : VK) w, σ[1]? = some (some w) → FmtV X.K H w → (∀ y : Str, y.length ≤ 12000000 → Q (.str y) H) → t σ H Q := by
  subst h
  have hp : PE X (.Name sValue q) (tVar 1) := pe_var (by rw [hN]; rfl) (.inl hv) (by decide) (by decide)
  rcases hm with rfl | rfl
  · exact ⟨_, pe_fmtX hu hp, fun σ H Q w hw hf k => ⟨w, hw, hf, k⟩⟩
  · exact ⟨_, pe_fmtXR hu hp, fun σ H Q w hw hf k => ⟨w, hw, hf, k⟩⟩
theorem arg_ok {a : Expr} (hu : X.A.units + 50 < cLine) (hN : X.N = [sSelf, sValue]) (hv : X.env.scope.names.lookup sValue = some .local) (h : okArg a = true) :
    ∃ t, PE X a t ∧ ∀ σ H (Q : VK) w, σ[1]? = some (some w) → FmtV X.K H w → (∀ y : Str, Q (.str y) H) → t σ H Q := by
  unfold okArg at h
  split at h
  · exact ⟨_, pe_str, fun σ H Q w _ _ k => k _⟩
  · simp only [Bool.and_eq_true, Bool.or_eq_true, decide_eq_true_eq] at h
    obtain ⟨t, h1, h2⟩ := fv_ok (X := X) (q := _) (p := _) hu hN hv h.1.2 h.2
    refine ⟨_, pe_joined (.cons pe_str (.cons h1 .nil)), fun σ H Q w hw hf k => ?_⟩
    refine ⟨_, rfl, by rw [str_app_len, sizeLine_eq]; have := h.1.1; simp only [Str.length, Str.empty] at *; simp; omega, h2 _ _ _ w hw hf fun y hy => ⟨y, rfl, ?_, k _⟩⟩
    rw [str_app_len, str_app_len, sizeLine_eq]; have := h.1.1; simp only [Str.length, Str.empty] at *; simp; omega
  · simp only [Bool.and_eq_true, Bool.or_eq_true, decide_eq_true_eq] at h
    obtain ⟨t, h1, h2⟩ := fv_ok (X := X) (q := _) (p := _) hu hN hv h.1.1.2 h.1.2
    refine ⟨_, pe_joined (.cons pe_str (.cons h1 (.cons pe_str .nil))), fun σ H Q w hw hf k => ?_⟩
    refine ⟨_, rfl, by rw [str_app_len, sizeLine_eq]; have := h.1.1.1; simp only [Str.length, Str.empty] at *; simp; omega, h2 _ _ _ w hw hf fun y hy => ⟨y, rfl, ?_, ⟨_, rfl, ?_, k _⟩⟩⟩
    · rw [str_app_len, str_app_len, sizeLine_eq]; have := h.1.1.1; simp only [Str.length, Str.empty] at *; simp; omega
    · rw [str_app_len, str_app_len, str_app_len, sizeLine_eq]; have := h.1.1.1; have := h.2; simp only [Str.length, Str.empty] at *; simp; omega
  · cases h
end

/-! ### what the written part says of a class, checked -/
def fnK (sc : Scope) : Bool := match sc.kind with
  | .function => true
  | _ => false
def noneV : Value → Bool
  | .none => true
  | _ => false
def parB : Arguments → Bool
  | ⟨[], [⟨a, none, _⟩, ⟨b, none, _⟩], none, [], [], none, []⟩ => decide (a = sSelf) && decide (b = sValue)
  | _ => false
def bodB : FuncBody → Bool
  | .stmts [.Expr (.Call (.Attribute (.Call (.Name n1 _) [] [] _) n2 p2) [arg] [] p3) _, .Assign [.Attribute (.Name n3 _) n4 _] (.Name n5 _) _] =>
    decide (n1 = sSuper) && decide (n2 = sInit) && okArg arg && decide (n3 = sSelf) && decide (n4 = sValue) && decide (n5 = sValue) && (p2.endLine == p3.line)
  | _ => false
def scB (sc : Scope) : Bool := fnK sc && !sc.isCoroutine && !sc.isGenerator && sc.names.all (fun x => decide (x.2 ≠ .cell)) && decide (sc.names.lookup sSelf = some .local) && decide (sc.names.lookup sValue = some .local) &&
  decide (sc.names.lookup sClass = some .free) && decide (sc.names.lookup sSuper = some .globalImplicit) && sc.names.all (fun x => decide (x.2 = .free → x.1 = sClass))
def celB (K : PySem.W.Frag) (C : Addr) : List (Str × Addr) → Bool
  | [(n, cc)] => decide (n = sClass) && (match K.lookup cc with
    | some ⟨_, _, .cell (some (.ref D)), _⟩ => D == C
    | _ => false)
  | _ => false
def codB (K : PySem.W.Frag) (file : Str) : Value → Bool
  | .ref cda => (match K.lookup cda with
    | some ⟨_, _, .fields vs, _⟩ => (match (vs[2]? : Option Value) with
      | some (.str f _) => file == f
      | _ => false)
    | _ => false)
  | _ => false
def iniFd (file : Str) (K : PySem.W.Frag) (C : Addr) (fd : FuncData) : Bool :=
  parB fd.params && bodB fd.body && scB fd.scope && celB K C fd.closure && codB K file fd.code && PySem.W.codeIn K fd.code fd.qualname && decide (fd.globals = mainGlobals) && decide (fd.builtins = builtinsNs) && noneV fd.defaults
def iniB (file : Str) (K : PySem.W.Frag) (C fI : Addr) : Bool := match K.lookup fI with
  | some ⟨_, _, .func fd, _⟩ => iniFd file K C fd
  | _ => false
/-- an own __init__ like this -/
structure IniD (file : Str) (K : PySem.W.Frag) (C fI : Addr) (fd : FuncData) : Prop where
  at_ : ∃ oc od osl, K.lookup fI = some ⟨oc, od, .func fd, osl⟩
  ok : iniFd file K C fd = true
theorem iniB_ok {file : Str} {K : PySem.W.Frag} {C fI : Addr} (h : iniB file K C fI = true) : ∃ fd, IniD file K C fI fd := by
  unfold iniB at h
  split at h
  · exact ⟨_, ⟨_, _, _, ‹_›⟩, h⟩
  · cases h
def oexB (K : PySem.W.Frag) (C : Addr) : Bool := match K.lookup C with
  | some ⟨.type t, _, .cls cd, sl⟩ => decide (t = "type") && (match cd.mro, sl.toList with
    | .ref C' :: bm, [_, _, _, _, some (.builtin n), _] => decide (C' = C) && decide (n = "ValueError.__new__") && !cd.hasDel && cd.hasDict && PySem.HandSPX.refsVE bm
    | _, _ => false)
  | _ => false
theorem oexB_ok {K : PySem.W.Frag} {C : Addr} (h : oexB K C = true) : ∃ nm q N bs bm sn sub ab col dd k0 k1 k2 k3 k5, K.lookup C = some (excClassObj nm q C N bs bm true sn sub ab col dd k0 k1 k2 k3 k5 "ValueError.__new__") ∧ PySem.HandSPX.refsVE bm = true := by
  unfold oexB at h
  split at h
  · rename_i t dd cd sl ho
    simp only [Bool.and_eq_true, decide_eq_true_eq] at h
    obtain ⟨rfl, h⟩ := h
    split at h
    · rename_i C' bm k0 k1 k2 k3 n k5 hm hs
      simp only [Bool.and_eq_true, decide_eq_true_eq, Bool.not_eq_true'] at h
      obtain ⟨⟨⟨⟨rfl, rfl⟩, hdel⟩, hh⟩, hr⟩ := h
      obtain ⟨nm, bs, mro, ns, qn, hd, sn, sub, ab, col, del⟩ := cd
      dsimp only at hm hdel hh
      subst hm hdel hh
      have hsl : sl = #[k0, k1, k2, k3, some (.builtin "ValueError.__new__"), k5] := by
        obtain ⟨l⟩ := sl
        simp only at hs
        rw [hs]
      subst hsl
      exact ⟨nm, qn, ns, bs, bm, sn, sub, ab, col, dd, k0, k1, k2, k3, k5, ho, hr⟩
    · cases h
  · cases h
/-- all that is asked of the class at C -/
structure XcF (file : Str) (K : PySem.W.Frag) (C : Addr) : Prop where
  oex : OexC K C
  ini : PySem.W.findIn K (.ref C) sInit = some (some (.ref (He.ma K C sInit)))
  inT : PySem.W.typeIn K (.ref (He.ma K C sInit)) = some (.type "function")
  iniD : ∃ fd, IniD file K C (He.ma K C sInit) fd
  sup : PySem.W.ks_superIn K C C sInit = some (some (.builtin "ValueError.__init__"))
  ve : PySem.W.subIn K (.ref C) (.type "ValueError") = some true
  own : PySem.W.mroIn K C (.ref C) = some true
  val : PySem.W.findIn K (.ref C) sValue = some none
  ga : PySem.W.findIn K (.ref C) "__getattribute__" = some (some (.builtin "BaseException.__getattribute__"))
  gg : PySem.W.findIn K (.ref C) "__getattr__" = some none
  hd : PySem.W.hasDictIn K C = true
  ca : PySem.W.findIn K (.ref C) "__class__" = some (some (.builtin "object.__class__"))
  mo : PySem.W.mroIn K C (.type "object") = some true
def xcB (file : Str) (K : PySem.W.Frag) (C : Addr) : Bool :=
  oexB K C && decide (PySem.W.findIn K (.ref C) "__setattr__" = some (some (.builtin "object.__setattr__"))) && decide (PySem.W.subIn K (.ref C) (.type "BaseException") = some true) && decide (PySem.W.typeIn K (.ref C) = some (.type "type")) &&
  PySem.W.keepIn K (.ref C) && decide (PySem.W.findIn K (.ref C) sInit = some (some (.ref (He.ma K C sInit)))) && decide (PySem.W.typeIn K (.ref (He.ma K C sInit)) = some (.type "function")) && iniB file K C (He.ma K C sInit) &&
  decide (PySem.W.ks_superIn K C C sInit = some (some (.builtin "ValueError.__init__"))) && decide (PySem.W.subIn K (.ref C) (.type "ValueError") = some true) && decide (PySem.W.mroIn K C (.ref C) = some true) && decide (PySem.W.findIn K (.ref C) sValue = some none) &&
  decide (PySem.W.findIn K (.ref C) "__getattribute__" = some (some (.builtin "BaseException.__getattribute__"))) && decide (PySem.W.findIn K (.ref C) "__getattr__" = some none) && PySem.W.hasDictIn K C &&
  decide (PySem.W.findIn K (.ref C) "__class__" = some (some (.builtin "object.__class__"))) && decide (PySem.W.mroIn K C (.type "object") = some true)
theorem xcB_ok {file : Str} {K : PySem.W.Frag} {C : Addr} (h : xcB file K C = true) : XcF file K C := by
  unfold xcB at h
  simp only [Bool.and_eq_true, decide_eq_true_eq] at h
  obtain ⟨⟨⟨⟨⟨⟨⟨⟨⟨⟨⟨⟨⟨⟨⟨⟨h1, h2⟩, h3⟩, h4⟩, h5⟩, h6⟩, h7⟩, h8⟩, h9⟩, h10⟩, h11⟩, h12⟩, h13⟩, h14⟩, h15⟩, h16⟩, h17⟩ := h
  exact ⟨⟨oexB_ok h1, h2, h3, h4, h5⟩, h6, h7, iniB_ok h8, h9, h10, h11, h12, h13, h14, h15, h16, h17⟩
/-- what is asked of all of them -/
structure XcG (P : Program) (K : PySem.W.Frag) : Prop where
  st : PySem.W.nsIn K cStatics "thirdparty.any" = some none
  sp : PySem.W.nsIn K mainGlobals sSuper = some none
  cg : PySem.W.specialIn K (.builtin "object.__class__") "__get__" = some (some (.builtin "getset_descriptor.__get__"))
  ct : PySem.W.takesIn K (.builtin "object.__class__") = some true
  tp : (P.main.scope.names.lookup sSuper).isSome = false
def xgB (K : PySem.W.Frag) : Bool := decide (PySem.W.nsIn K cStatics "thirdparty.any" = some none) && decide (PySem.W.nsIn K mainGlobals sSuper = some none) &&
  decide (PySem.W.specialIn K (.builtin "object.__class__") "__get__" = some (some (.builtin "getset_descriptor.__get__"))) && decide (PySem.W.takesIn K (.builtin "object.__class__") = some true)
theorem xgB_ok {P : Program} {K : PySem.W.Frag} (h : xgB K = true) (t : (P.main.scope.names.lookup sSuper).isSome = false) : XcG P K := by
  unfold xgB at h
  simp only [Bool.and_eq_true, decide_eq_true_eq] at h
  obtain ⟨⟨⟨h1, h2⟩, h3⟩, h4⟩ := h
  exact ⟨h1, h2, h3, h4, t⟩
end Z

set_option Elab.async false
set_option linter.all false
set_option maxRecDepth 100000
set_option maxHeartbeats 4000000
/-! ZX2: such an __init__ is walked. -/
namespace Z
open PySem PySem.Spec L2 PyProof.Rows

section
variable {P : Program} {w : World} {K : PySem.W.Frag} {mg : Str → Option Value} {base : Heap} {file : Str} {C fI : Addr} {fd : FuncData}
/-- the words -/
theorem ini_words (D : IniD file K C fI fd) : ∃ (r1 r2 p0 p1 p2 p3 p4 q1 q2 q3 q4 : Pos) (arg : Expr) (cc cda : Addr) (sc : Scope) (nm q : Str) (kV doc pm ct : Value) (an : Option Addr),
    fd = PySem.W.fnX nm q ⟨[], [⟨sSelf, none, r1⟩, ⟨sValue, none, r2⟩], none, [], [], none, []⟩ [.Expr (.Call (.Attribute (.Call (.Name sSuper p0) [] [] p1) sInit p2) [arg] [] p3) p4, .Assign [.Attribute (.Name sSelf q1) sValue q2] (.Name sValue q3) q4] sc [(sClass, cc)] .none kV doc pm an (.ref cda) ct ∧
      okArg arg = true ∧ (p2.endLine == p3.line) = true ∧ scB sc = true ∧ (∃ c d sl, K.lookup cc = some ⟨c, d, .cell (some (.ref C)), sl⟩) ∧ (∃ c d vs sl f tk, K.lookup cda = some ⟨c, d, .fields vs, sl⟩ ∧ vs[2]? = some (.str f tk) ∧ (file == f) = true) ∧ PySem.W.codeIn K (.ref cda) q = true := by
  have h := D.ok
  unfold iniFd at h
  obtain ⟨nm, q, pa, bd, sc, gl, cl, dV, kV, doc, pm, an, cd, ct, bn⟩ := fd
  simp only [Bool.and_eq_true, decide_eq_true_eq] at h
  obtain ⟨⟨⟨⟨⟨⟨⟨⟨h1, h2⟩, h3⟩, h4⟩, h5⟩, h6⟩, rfl⟩, rfl⟩, hdv⟩ := h
  have hdv : dV = .none := by
    cases dV <;> first | rfl | cases hdv
  subst hdv
  unfold parB at h1
  split at h1
  · rename_i a r1 b r2
    simp only [Bool.and_eq_true, decide_eq_true_eq] at h1
    obtain ⟨rfl, rfl⟩ := h1
    unfold bodB at h2
    split at h2
    · rename_i n1 p0 p1 n2 p2 arg p3 p4 n3 q1 n4 q2 n5 q3 q4
      simp only [Bool.and_eq_true, decide_eq_true_eq] at h2
      obtain ⟨⟨⟨⟨⟨⟨rfl, rfl⟩, ha⟩, rfl⟩, rfl⟩, rfl⟩, hln⟩ := h2
      unfold celB at h4
      split at h4
      · rename_i n cc
        simp only [Bool.and_eq_true, decide_eq_true_eq] at h4
        obtain ⟨rfl, h4⟩ := h4
        split at h4
        · rename_i c1 d1 D1 sl1 e1
          have : D1 = C := by simpa using h4
          subst this
          unfold codB at h5
          split at h5
          · rename_i cda
            split at h5
            · rename_i c2 d2 vs sl2 e2
              split at h5
              · rename_i f t e3
                exact ⟨r1, r2, p0, p1, p2, p3, p4, q1, q2, q3, q4, arg, cc, cda, sc, nm, q, kV, doc, pm, ct, an, rfl, ha, hln, h3, ⟨_, _, _, e1⟩, ⟨_, _, _, _, f, t, e2, e3, h5⟩, h6⟩
              · cases h5
            · cases h5
          · cases h5
        · cases h4
      · cases h4
    · cases h2
  · cases h1
theorem scB_ok {sc : Scope} (h : scB sc = true) : sc.kind = .function ∧ sc.isCoroutine = false ∧ sc.isGenerator = false ∧ (∀ x ∈ sc.names, x.2 ≠ .cell) ∧ sc.names.lookup sSelf = some .local ∧ sc.names.lookup sValue = some .local ∧
    sc.names.lookup sClass = some .free ∧ sc.names.lookup sSuper = some .globalImplicit ∧ ∀ x ∈ sc.names, x.2 = .free → x.1 = sClass := by
  unfold scB at h
  simp only [Bool.and_eq_true, decide_eq_true_eq, Bool.not_eq_true', List.all_eq_true] at h
  obtain ⟨⟨⟨⟨⟨⟨⟨⟨h1, h2⟩, h3⟩, h4⟩, h5⟩, h6⟩, h7⟩, h8⟩, h9⟩ := h
  refine ⟨?_, h2, h3, fun x hx => by simpa using h4 x hx, h5, h6, h7, h8, fun x hx => by simpa using h9 x hx⟩
  unfold fnK at h1
  split at h1
  · assumption
  · cases h1
end

def cx0 : CXT := fun _ _ _ _ _ _ => False
/-- what such an __init__ promises -/
def spI (K : PySem.W.Frag) (C : Addr) : Sp := fun vs H Q _ => ∃ a v, vs = [.ref a, v] ∧ H a = some (exo a C none) ∧ FmtV K H v ∧ ∀ dx, H dx = none → dx ≠ a → Q .non (upd (upd H dx (exd dx [(sValue, v)])) a (exo a C (some dx)))

/-- the built-in __init__ bound to the exception, called -/
theorem call_bwV {prog : Program} {w : World} {A : Around} {E : Value → Shared → Prop} {h : Heap} {g : Array GenState} {d : Drawn} {t : Nat} {os : OsState}
    {nm q : Str} {C N : Addr} {bs bm : List Value} {hdct : Bool} {sn : List Str} {sub : List Value} {ab : Bool} {col : Option Bool} {dd : Option Addr} {k0 k1 k2 k3 k5 : Option Value} {u e t0 : Addr} {rest : List Value} {Q : Value → Shared → Prop}
    (hC : h.get? C = some (excClassObj nm q C N bs bm hdct sn sub ab col dd k0 k1 k2 k3 k5 "ValueError.__new__")) (he : h.get? e = some (HandSPX.excO C t0)) (hu : h.get? u = some (PySem.W.kxs_mw "ValueError.__init__" e)) (hrest : rest.length ≤ sizeLine)
    (hq : ∀ h' t1, (∀ b o, b ≠ e → h.get? b = some o → h'.get? b = some o) → h'.get? e = some (HandSPX.excO C t1) → Q .none ⟨h', g, d, t, os⟩) :
    wpAny (model prog w) A (call (.ref u) rest) Q E ⟨h, g, d, t, os⟩ := by
  refine wpAny_call (codeAny_of_tree ?_)
  show wpAny _ A.in1 (callAny (.ref u) ⟨rest, []⟩) _ _ _
  simp only [callAny]
  refine wpAny_bind (wpAny_load hu ?_)
  simp only [PySem.W.kxs_mw, show (Value.type "method-wrapper" == Value.type "method" || Value.type "method-wrapper" == Value.type "builtin_function_or_method" || Value.type "method-wrapper" == Value.type "method-wrapper") = true by decide, if_true]
  refine PySem.W.KFB.if_so (by decide) ?_
  refine wpAny_bind (ESX.check_bound F.excBase_ValueError hC he rfl ?_)
  refine wpAny_bind (wpAny_pure (wpAny_pure ?_))
  refine ⟨Code.quiet_builtin _ (by decide +kernel), codeAny_builtin F.excBase_ValueError.initEntry ?_⟩
  rw [Around.under_plainId F.excBase_ValueError.init.plain _]
  wp_walk
  refine hq _ h.objs.size (fun b o hb ho => ?_) ?_
  · rw [Heap.get?_update_other _ _ (Ne.symm hb)]
    exact Heap.get?_push_of_some _ ho
  · rw [Heap.get?_update_self _ (Heap.get?_push_of_some _ he) rfl]
    rfl

theorem eval_sup {o arg : Expr} {name : Str} {p2 p3 : Pos} {env : PySem.Env} (h : okArg arg = true) (hl : (p2.endLine == p3.line) = true) : ∃ pl : Sem Bool, eval (.Call (.Attribute o name p2) [arg] [] p3) env = (do
      let ov ← attributeBase o name env (eval o env)
      standAt p2.atName
      let (f, first) ← holding [ov] (getMethod ov name pl)
      callWith p3 f first (backTo p3 (starEach [arg] env)) []) := by
  have hst : starEach [arg] env = [(false, eval arg env)] := by
    unfold okArg at h
    split at h <;> first | rfl | cases h
  have hform : methodCallForm 1 (backTo p3 (starEach [arg] env)) (backToKw p3 (keywordEach [] env)) = true := by rw [hst]; rfl
  refine ⟨(do return (← importBound o env).getD true), ?_⟩
  show (do
    let ov ← attributeBase o name env (eval o env)
    standAt p2.atName
    methodCall o name p2 p3 env ov 1 (backTo p3 (starEach [arg] env)) (backToKw p3 (keywordEach [] env))) = _
  have e : ∀ ov, methodCall o name p2 p3 env ov 1 (backTo p3 (starEach [arg] env)) (backToKw p3 (keywordEach [] env)) = (do
      let (f, first) ← holding [ov] (getMethod ov name (do return (← importBound o env).getD true))
      callWith p3 f first (backTo p3 (starEach [arg] env)) []) := by
    intro ov
    unfold methodCall calleeOf methodCallPos
    rw [hform]
    simp only [hl, Bool.not_true, Bool.false_or, if_true, pure_bind]
    rfl
  simp only [e]
/-- the context of such an __init__ -/
def cxI (P : Program) (w : World) (K : PySem.W.Frag) (mg : Str → Option Value) (base : Heap) (A : Around) (outer : List PySem.Env) (s : Shared) (H : Hp) (env : PySem.Env) (xe : Value → Shared → Prop) : Cx where
  prog := P
  w := w
  K := K
  mg := mg
  base := base
  A := A
  N := [sSelf, sValue]
  s_0 := s
  H_0 := H
  env := env
  outer := outer
  stack := env :: outer
  ex := []
  fn := fun _ => false
  calm := false
  pn := []
  xe := xe
theorem lk0 {x y : Value} : ([sSelf, sValue].zip [x, y]).reverse.lookup sSelf = some x := by
  show (match sSelf == sValue with | true => some y | false => (match sSelf == sSelf with | true => some x | false => none)) = some x
  have e : (sSelf == sValue) = false := by decide
  rw [e]; simp
theorem lk1 {x y : Value} : ([sSelf, sValue].zip [x, y]).reverse.lookup sValue = some y := by
  show (match sValue == sValue with | true => some y | false => (match sValue == sSelf with | true => some x | false => none)) = some y
  simp
theorem bind_ini {nm q : Str} {r1 r2 : Pos} {body : List Stmt} {sc : Scope} {cl : List (Str × Addr)} {kV doc pm ct cd : Value} {an : Option Addr} {u0 u1 : Value} :
    bindArgs (PySem.W.fnX nm q ⟨[], [⟨sSelf, none, r1⟩, ⟨sValue, none, r2⟩], none, [], [], none, []⟩ body sc cl .none kV doc pm an cd ct) ⟨[u0, u1], []⟩ = pure [(sSelf, u0), (sValue, u1)] := rfl
section
variable {P : Program} {w : World} {K : PySem.W.Frag} {mg : Str → Option Value} {base : Heap} {file : Str} {C fI : Addr} {fd : FuncData}
theorem binds_ini (D : IniD file K C fI fd) : Binds K fd [sSelf, sValue] [] := by
  obtain ⟨r1, r2, p0, p1, p2, p3, p4, q1, q2, q3, q4, arg, cc, cda, sc, nm, q, kV, doc, pm, ct, an, rfl, _⟩ := ini_words D
  exact Binds.all fun us hl => match us, hl with | [_, _], _ => bind_ini
theorem init_ok (T : XcF file K C) (G : XcG P K) (hfile : ((P.main.file : Str) == file) = true) (D : IniD file K C fI fd) (k : Nat) : FnOk P w K mg base cx0 k fI fd [sSelf, sValue] (spI K C) := by
  refine ⟨fun vs H Q E ⟨a, v, e, _⟩ => by rw [e]; rfl, fun A outer s H args us vs Q E hr e0 hb r hsp => ?_⟩
  obtain ⟨a, v, rfl, ea, fm, hq⟩ := hsp
  obtain ⟨oc, od, osl, hfI⟩ := D.at_
  obtain ⟨r1, r2, p0, p1, p2, p3, p4, q1, q2, q3, q4, arg, cc, cda, sc, nm, q, kV, doc, pm, ct, an, rfl, hA, hln, hS, ⟨c1, d1, sl1, hcc⟩, ⟨c2, d2, vs2, sl2, f2, tk2, hcda, hv2, hf2⟩, hco⟩ := ini_words D
  obtain ⟨sk, s1, s2, s3, s4, s5, s6, s7, s8⟩ := scB_ok hS
  have KX : K.In s.heap := e0.mod.kin.keeps fun b o e => (e0.bs b o e).1
  have lim : s.heap.NoLimit := e0.mod.nolimit.keeps fun b o e => (e0.bs b o e).1
  cases r with
  | @cons _ u0 _ us ra r =>
  cases r with
  | @cons _ u1 _ us rv r =>
  cases r
  obtain rfl : u0 = Value.ref a := ra
  refine ks_codeAny_call_defAt hr.depth (KX _ _ hfI) rfl lim (PySem.W.codeRec_of KX hco) rfl hb s3 (fun x hx => ?_) (fun h0 hns hk0 => ?_) s1 s2 sk
  · simp only [List.zip_cons_cons, List.zip_nil_right, List.mem_cons, List.not_mem_nil, or_false] at hx
    rcases hx with rfl | rfl
    · exact s4
    · exact s5
  generalize hen : callEnv (PySem.W.fnX nm q ⟨[], [⟨sSelf, none, r1⟩, ⟨sValue, none, r2⟩], none, [], [], none, []⟩ [.Expr (.Call (.Attribute (.Call (.Name sSuper p0) [] [] p1) sInit p2) [arg] [] p3) p4, .Assign [.Attribute (.Name sSelf q1) sValue q2] (.Name sValue q3) q4] sc [(sClass, cc)] .none kV doc pm an (.ref cda) ct) s.heap.objs.size fI = env
  have v1 : env.scope = sc := by rw [← hen]; rfl
  have v2 : env.locals = s.heap.objs.size := by rw [← hen]; rfl
  have v3 : env.globals = mainGlobals := by rw [← hen]; rfl
  have v4 : env.builtins = builtinsNs := by rw [← hen]; rfl
  have v5 : env.cells = [(sClass, cc)] := by rw [← hen]; rfl
  have v6 : env.frame = some s.heap.objs.size := by rw [← hen]; rfl
  have v7 : env.func = some fI := by rw [← hen]; rfl
  have v8 : env.code = .ref cda := by rw [← hen]; rfl
  clear hen
  have hval : ∀ x, x = sSelf ∨ x = sValue → env.kindOf x = some .local := fun x hx => by
    show env.scope.names.lookup x = _
    rw [v1]
    rcases hx with rfl | rfl
    · exact s4
    · exact s5
  let X : Cx := cxI P w K mg base (A.deeper env) outer s H env (fun e s' => wpAny (model P w) (A.deeper env) (leaving env e) (fun _ s'' => CR cx0 outer P w H s Q E (.error e) s'') (fun e' s'' => CR cx0 outer P w H s Q E (.error e') s'') s')
  have noA : ∀ b : Addr, b ∉ X.ex := fun b z => absurd (show b ∈ ([] : List Addr) from z) (by simp)
  have hcc0 : h0.IsCell cc (some (.ref C)) := ⟨_, hk0 _ _ (KX _ _ hcc), rfl⟩
  have I : L2.Inv X [] [some (.ref a), some v] H { s with heap := h0, toks := s.toks + 2 } := by
    refine ⟨⟨e0.mod, by show env.scope.kind = _; rw [v1]; exact sk, v3, v4, Nat.le_of_eq v2.symm, fun x y c h1 h2 => ?_, fun x hx => ?_, fun x c z => Bool.noConfusion (show false = true from z), fun z => Bool.noConfusion (show false = true from z), Around.frames_deeper e0.frames, .inr ⟨rfl, by show env.frame = some env.locals; rw [v6, v2]⟩, fun b z => absurd z (noA b), e0.bs, e0.bsz, fun b _ _ => noA b, fun b z => absurd z (noA b), e0.funs, e0.frf⟩,
      rfl, e0.bare, Un.kept hk0, ⟨_, by show Heap.Ns _ env.locals _; rw [v2]; exact hns, fun i x y h1 h2 h3 => ?_⟩, fun x c h => ?_, by show H env.locals = none; rw [v2]; exact e0.hok.fresh (Nat.le_refl _), fun x c h => ?_, fun p hp => absurd (show p ∈ ([] : List (Addr × Obj)) from hp) (by simp), e0.hok.kept hk0, rfl⟩
    · have h1' : env.cells.lookup x = some c := h1
      have h2' : env.cells.lookup y = some c := h2
      rw [v5] at h1' h2'
      have m1 := PySem.mem_of_lookup h1'
      have m2 := PySem.mem_of_lookup h2'
      simp only [List.mem_cons, List.not_mem_nil, or_false, Prod.mk.injEq] at m1 m2
      rw [m1.1, m2.1]
    · have hx' : env.scope.names.lookup x = some .cell ∨ env.scope.names.lookup x = some .free := hx
      rw [v1] at hx'
      rcases hx' with z | z
      · exact absurd rfl (s3 _ (PySem.mem_of_lookup z))
      · have := s8 _ (PySem.mem_of_lookup z) rfl
        refine ⟨cc, ?_⟩
        show env.cells.lookup x = _
        rw [v5, show x = sClass from this]
        simp [List.lookup]
    · match i with
      | 0 =>
        simp only [X, cxI, List.getElem?_cons_zero, Option.some.injEq] at h1 h2
        subst h1 h2
        refine ⟨.ref a, rfl, .inl ⟨hval _ (.inl rfl), ?_⟩⟩
        exact lk0
      | 1 =>
        simp only [X, cxI, List.getElem?_cons_zero, List.getElem?_cons_succ, Option.some.injEq] at h1 h2
        subst h1 h2
        refine ⟨u1, rv, .inl ⟨hval _ (.inr rfl), ?_⟩⟩
        exact lk1
      | i + 2 => simp [X, cxI] at h1
    · have h' : env.cells.lookup x = some c := h
      rw [v5] at h'
      have m1 := PySem.mem_of_lookup h'
      simp only [List.mem_cons, List.not_mem_nil, or_false, Prod.mk.injEq] at m1
      rw [m1.2]
      exact ⟨_, hcc0⟩
    · have h' : env.cells.lookup x = some c := h
      rw [v5] at h'
      have m1 := PySem.mem_of_lookup h'
      simp only [List.mem_cons, List.not_mem_nil, or_false, Prod.mk.injEq] at m1
      rw [m1.2]
      exact (e0.bs cc _ (e0.mod.kin _ _ hcc)).2
  obtain ⟨ta, hta, kta⟩ := arg_ok (X := X) (a := arg) (by have := hr.un; show A.units + 3 + 50 < cLine; omega) rfl (by show env.scope.names.lookup sValue = _; rw [v1]; exact s5) hA
  have hkf : env.scope.kind = .function := by rw [v1]; exact sk
  have hks : env.kindOf sSuper = some .globalImplicit := by show env.scope.names.lookup sSuper = _; rw [v1]; exact s7
  have hkc : env.kindOf sClass = some .free := by show env.scope.names.lookup sClass = _; rw [v1]; exact s6
  have hst : starEach [arg] env = (false, eval arg env) :: starEach [] env := by
    unfold okArg at hA
    split at hA <;> first | rfl | cases hA
  have hfl : ((P.main.file : Str) == f2) = true := by
    rw [eq_of_beq hfile]; exact hf2
  obtain ⟨cnm, cq, cN, cbs, cbm, csn, csub, cab, ccol, cdd, k0, k1, k2, k3, k5, hC, hbm⟩ := T.oex.cls
  have hcl : PySem.W.clsIn K C = some { name := cnm, bases := cbs, mro := .ref C :: cbm, ns := cN, qualname := cq, hasDict := true, slotNames := csn, subclasses := csub, abstract := cab, collection := ccol, hasDel := false } := by unfold PySem.W.clsIn; rw [hC] <;> rfl
  obtain ⟨t1, ho1⟩ := exo_at I.hok ea
  have ho1 : h0.get? a = some ({ cls := .ref C, dict := none, data := .fields #[.ref t1, .none, .none, .none, .bool false, .none] } : Obj) := ho1
  have hmgS : mg sSuper = none := PySem.W.mg_none_of (e0.mod.kin) e0.mod.glob G.sp
  obtain ⟨mb, hb1, hb2⟩ := e0.mod.blt
  have bk0 : ∀ b o, base.get? b = some o → h0.get? b = some o := fun b o e => hk0 b o (e0.bs b o e).1
  have KX0 : K.In h0 := fun b o e => hk0 b o (KX b o e)
  obtain ⟨pl, hev⟩ := eval_sup (o := .Call (.Name sSuper p0) [] [] p1) (name := sInit) (p2 := p2) (p3 := p3) (env := env) hA hln
  refine ks_wpAt_execs_cons (ks_wpAt_Expr_any (ks_wpAt_MethodCall (pl := pl) ?_ hev) (by simp [interactive, v1, sk]) rfl)
  refine ks_wpAt_super_base (f := fI) (cc := cda) hks hkc (by decide) v7 (hk0 _ _ (KX _ _ hfI)) rfl rfl v8 (hk0 _ _ (KX _ _ hcda)) rfl hv2 hfl G.tp ?_
  refine PySem.W.ks_loadName_global hkf hks (Calls.loadGlobal_builtin (env := env) (by rw [v3]; exact e0.mod.glob.keeps bk0) hmgS (by rw [v4]; exact hb1.keeps bk0) ((hb2 _ (by decide)).trans (by decide +kernel : bootBuiltins sSuper = some (.type "super"))) ⟨rfl, ?_⟩)
  refine wpAny_loadName_free hkf hkc (by rw [v5]; simp [List.lookup, sClass]) hcc0 ?_
  refine wpAny_loadName_local hkf (hval _ (.inl rfl)) (by rw [v2]; exact hns) lk0 ?_
  refine ks_wpAny_isType_cls (KX0 _ _ hC) rfl ⟨rfl, ?_⟩
  refine ks_wpAny_call_super (KX0 _ _ hC) rfl ho1 rfl (fun c z => by cases z) (PySem.W.looks_mroIn KX0 T.own) (fun h1 hso hk1 => ?_)
  have KX1 : K.In h1 := KX0.keeps hk1
  have hne : a ≠ C := fun z => by
    have e := KX0 _ _ hC
    rw [← z, ho1] at e
    cases e
  have hsup : PySem.W.alongIn K sInit (((.ref C :: cbm : List Value).dropWhile (· != .ref C)).drop 1) = some (some (.builtin "ValueError.__init__")) := by
    have e := T.sup
    unfold PySem.W.ks_superIn at e
    rw [hcl] at e
    exact e
  have I0 : PySem.W.InstAt h1 a { cls := .ref C, dict := none, data := .fields #[.ref t1, .none, .none, .none, .bool false, .none] } C none := ⟨hk1 _ _ ho1, rfl, rfl, trivial⟩
  refine PySem.W.kxs_getMethod PySem.W.kxs_ValueError (l₀ := .ref C :: cbm) hso (PySem.W.looks_opaque KX1 G.st) (fun A Q E s k q => wpAny_bind ((PySem.W.looks_clsIn KX1 hcl) A _ E s k (wpAny_pure q))) rfl KX1 hsup (I0.type.andThen (PySem.W.looks_subIn KX1 T.ve)) hne (by decide) ?_
  have ku : ∀ b o, h0.get? b = some o → (h1.push (PySem.W.kxs_mw "ValueError.__init__" a)).get? b = some o := fun b o e => Heap.get?_push_of_some _ (hk1 _ _ e)
  have gu : (h1.push (PySem.W.kxs_mw "ValueError.__init__" a)).get? h1.objs.size = some (PySem.W.kxs_mw "ValueError.__init__" a) := Heap.get?_push_size _ rfl
  have I1 : L2.Inv X [] [some (.ref a), some v] H { s with heap := h1, toks := s.toks + 2 } := I.kept (t' := s.toks + 2) hk1
  have I2 : L2.Inv X [(h1.objs.size, PySem.W.kxs_mw "ValueError.__init__" a)] [some (.ref a), some v] H { s with heap := h1.push (PySem.W.kxs_mw "ValueError.__init__" a), toks := s.toks + 2 + 1 } := by
    refine (I1.kept (t' := s.toks + 2 + 1) fun b o e => Heap.get?_push_of_some _ e).pins_of fun p hp => ?_
    simp only [List.mem_cons, List.not_mem_nil, or_false] at hp
    subst hp
    refine ⟨gu, I1.hok.fresh (Nat.le_refl _), Nat.ne_of_gt I1.lt, fun hm => ?_, fun v z => by cases z⟩
    obtain ⟨_, o', e', _⟩ := e0.funs.mem hm
    have := Heap.lt_size (hk1 _ _ (hk0 _ _ e'))
    exact absurd this (Nat.lt_irrefl _)
  refine PySem.W.kxs_callWith (i := "ValueError.__init__") (x := a) (by rw [hst]; rfl) ?_
  have hpa : PA X [arg] (tCons ta tNil) := pa_cons hta pa_nil hst
  have hrun := hpa.run p3 _ _ _ H (fun vs H1 => (∃ y : Str, vs = [.str y]) ∧ H1 = H) I2 (kta _ _ _ v rfl fm fun y => ⟨⟨y, rfl⟩, rfl⟩)
  have hrun : wpAny (model P w) (A.deeper env) (spliced (backTo p3 (starEach [arg] env))) _ _ _ := hrun
  rw [hst] at hrun ⊢
  refine Calls.evalArgs_plain (thn hrun fun us2 s3 hap => ?_)
  obtain ⟨vs3, H3, I3, r3, ⟨y, rfl⟩, rfl⟩ := hap
  cases r3 with
  | @cons _ u3 _ us3 ry r3 =>
  cases r3
  obtain ⟨tky, rfl⟩ := ry
  have hu3 : s3.heap.get? h1.objs.size = some (PySem.W.kxs_mw "ValueError.__init__" a) := (I3.pin _ (List.mem_append_right _ List.mem_cons_self)).1
  refine ⟨hu3, ?_⟩
  obtain ⟨t3, ho3⟩ := exo_at I3.hok ea
  obtain ⟨hp3, g3, d3, tk3, os3⟩ := s3
  refine call_bwV (I3.kIn _ _ hC) ho3 hu3 (by rw [sizeLine_eq]; simp) fun h4 t4 hk4 ho4 => ?_
  have I4' := I3.write (t' := tk3) (x := a) (e := a) (o := exo a C none) (by rw [ea]; exact True.intro) (.inl rfl) hk4 ⟨_, ho4⟩ (exo_ok ho4)
  have eu : upd H3 a (exo a C none) = H3 := by
    funext b
    by_cases hb : b = a
    · rw [hb, upd_same, ea]
    · rw [upd_ne hb]
  rw [eu] at I4'
  have I4 : L2.Inv X [] [some (.ref a), some v] H3 ⟨h4, g3, d3, tk3, os3⟩ := I4'.pins_of fun p hp => absurd hp (by simp)
  refine wpAt_of_wpAny ?_
  have hself : PE X (.Name sSelf q1) (tVar 0) := pe_var (by rfl) (.inl (hval _ (.inl rfl))) (by decide) (by decide)
  have hvalE : PE X (.Name sValue q3) (tVar 1) := pe_var (by rfl) (.inl (hval _ (.inr rfl))) (by decide) (by decide)
  have hps : PSs X [.Assign [.Attribute (.Name sSelf q1) sValue q2] (.Name sValue q3) q4] _ := pss_one (ps_ost hself hvalE)
  have hfin := hps.run [] ⟨h4, g3, d3, tk3, os3⟩ [some (.ref a), some v] H3 { nx := fun _ H' => Q .non H', rt := fun _ _ => False } I4
    ⟨v, rfl, .ref a, rfl, a, C, rfl, T.oex, T.val, .inl ⟨ea, fun dx n ne => hq dx n ne⟩⟩
  refine wpAny_mono hfin (fun fl s5 h5 => ?_) fun _ _ z => z
  cases fl with
  | next =>
    obtain ⟨σ5, H5, J, q5⟩ := h5
    exact ⟨.non, H5, J.os, J.bare, J.base, J.hok, rfl, q5⟩
  | brk =>
    obtain ⟨_, _, _, z⟩ := h5
    exact z.elim
  | cont =>
    obtain ⟨_, _, _, z⟩ := h5
    exact z.elim
  | ret u =>
    obtain ⟨_, _, _, _, _, z⟩ := h5
    exact z.elim
end
end Z

set_option Elab.async false
set_option linter.all false
set_option maxRecDepth 100000
set_option maxHeartbeats 4000000
/-! ZX3: a caught exception as a value; raise, try .. except .. as. -/
namespace Z
open PySem PySem.Spec L2 PyProof.Rows

/-- at a: an exception of the class at C, caught, its dict at dx -/
def exv (a C dx : Addr) : HO := .ext fun h => ∃ (oe : Obj) (vs : Array Value), h.get? a = some oe ∧ oe.cls = .ref C ∧ oe.dict = some dx ∧ oe.data = .fields vs
theorem exv_ok {P : Program} {w : World} {H : Hp} {h : Heap} {a C dx : Addr} {oe : Obj} {vs : Array Value} (h1 : h.get? a = some oe) (h2 : oe.cls = .ref C) (h3 : oe.dict = some dx) (h4 : oe.data = .fields vs) : ObjOk P w H h a (exv a C dx) :=
  ⟨⟨oe, vs, h1, h2, h3, h4⟩, ⟨_, h1⟩, fun g1 g2 ⟨o, v, a1, a2, a3, a4⟩ k => ⟨o, v, k _ a1, a2, a3, a4⟩⟩
theorem exv_at {P : Program} {w : World} {H : Hp} {h : Heap} {a C dx : Addr} (x : HOk P w H h) (e : H a = some (exv a C dx)) : ∃ (oe : Obj) (vs : Array Value), h.get? a = some oe ∧ oe.cls = .ref C ∧ oe.dict = some dx ∧ oe.data = .fields vs := by
  have z : ObjOk P w H h a (.ext fun h => ∃ (oe : Obj) (vs : Array Value), h.get? a = some oe ∧ oe.cls = .ref C ∧ oe.dict = some dx ∧ oe.data = .fields vs) := x a _ e
  exact z.1
section
variable {X : Cx} {pins : List (Addr × Obj)} {σ : L2.St} {H : Hp} {s : Shared}
theorem exv_inst {a C dx : Addr} {fs : List (Str × V)} (I : L2.Inv X pins σ H s) (e : H a = some (exv a C dx)) (ed : H dx = some (.xd fs)) :
    ∃ oe od, PySem.W.InstAt s.heap a oe C (some od) ∧ ∃ mA : Str → Option Value, (∀ n, PySem.W.lookIn n od = some (mA n)) ∧ ∀ f, RelO (fs.lookup f) (mA f) := by
  obtain ⟨oe, vs, h1, h2, h3, h4⟩ := exv_at I.hok e
  have hx : ObjOk X.prog X.w H s.heap dx (.xd fs) := I.hok dx _ ed
  obtain ⟨mA, hns, hr⟩ := hx
  obtain ⟨od, ho, hl⟩ := lookIn_ns hns
  exact ⟨oe, od, ⟨h1, h2, by unfold PySem.W.notCls; rw [h4] <;> rfl, by rw [h3]; exact ho⟩, mA, hl, hr⟩
end
/-- e.value -/
def tXv (K : PySem.W.Frag) (te : TE) : TE := fun σ H Q => te σ H fun x H1 => ∃ (a C dx : Addr) (v : V), x = .ref a ∧ (∃ file, XcF file K C) ∧ H1 a = some (exv a C dx) ∧ H1 dx = some (.xd [(sValue, v)]) ∧ Q v H1
theorem pe_xv {X : Cx} {e : Expr} {te : TE} {pos : Pos} (he : PE X e te) (hb : attributeBase e sValue X.env (eval e X.env) = eval e X.env) : PE X (.Attribute e sValue pos) (tXv X.K te) := by
  refine ⟨fun pins s σ H Q I h => ?_⟩
  refine attr_of hb (thn (he.run pins s σ H _ I h) fun u s1 hh => ?_)
  obtain ⟨x, H1, I1, rx, a, C, dx, v, ex, ⟨file, T⟩, ea, ed, q⟩ := hh
  subst ex
  obtain rfl : u = Value.ref a := rx
  obtain ⟨oe, od, J, mA, hl, hr⟩ := exv_inst I1 ea ed
  obtain ⟨u, hu, ru⟩ := RelO.some_of (v := v) (o := mA sValue) (by have := hr sValue; rwa [show ([(sValue, v)] : List (Str × V)).lookup sValue = some v by simp [List.lookup]] at this)
  exact HandSPX.exc_get I1.kIn J T.ga T.gg T.oex.exC (PySem.W.findObj_own T.hd T.val rfl (by rw [hl, hu])) (handed_of ru) ⟨v, H1, I1.tok _, ru, q⟩
/-- isinstance(e, c) -/
def clv : V → Value
  | .ref a => .ref a
  | .ty n => .type n
  | _ => .none
def rIsX (K : PySem.W.Frag) : List V → Hp → VK → Prop := fun xs H Q => ∃ (a C dx : Addr) (fs : List (Str × V)) (c : V) (b : Bool), xs = [.ref a, c] ∧ ((∃ D, c = .ref D) ∨ ∃ n, c = .ty n) ∧ (∃ file, XcF file K C) ∧ H a = some (exv a C dx) ∧ H dx = some (.xd fs) ∧ PySem.W.kitOne K (.ref C) (clv c) = some b ∧ Q (.bl b) H
theorem call_isx {X : Cx} {P : Program} (G : XcG P X.K) : CallR X (.builtin "isinstance") (rIsX X.K) := by
  intro pins s σ H xs us Q I r h
  obtain ⟨a, C, dx, fs, c, b, rfl, hc, ⟨file, T⟩, ea, ed, e, q⟩ := h
  cases r with
  | @cons _ u0 _ us ra r =>
  cases r with
  | @cons _ u1 _ us rc r =>
  cases r
  obtain rfl : u0 = Value.ref a := ra
  have ec : u1 = clv c := by
    rcases hc with ⟨D, rfl⟩ | ⟨n, rfl⟩
    · exact rc
    · exact rc
  subst ec
  obtain ⟨oe, od, J, _⟩ := exv_inst I ea ed
  have hcl : (PySem.W.clsIn X.K C).isSome = true := by
    obtain ⟨cnm, cq, cN, cbs, cbm, csn, csub, cab, ccol, cdd, k0, k1, k2, k3, k5, hC, hbm⟩ := T.oex.cls
    unfold PySem.W.clsIn
    rw [hC] <;> rfl
  exact PySem.W.kia_one (PySem.W.kitx_exc (od := some od) hcl T.ga T.gg T.oex.exC T.ca G.cg G.ct T.mo) I.kIn J e (fun z => nomatch z) fun tk => ⟨.bl b, H, I.kept (t' := tk) fun _ _ z => z, rfl, q⟩

/-! ### raise X(e) -/
/-- what a raise wants of the value -/
def rseQ (K : PySem.W.Frag) (C : Addr) (σ : L2.St) (W : WX) : VK := fun v H1 => [v].length ≤ 1000 ∧ ∀ a, H1 a = none → spI K C (.ref a :: ([v] ++ [])) (upd H1 a (exo a C none))
  (fun v H2 => v = .non ∧ ∃ (d : Addr) (fs : List (Str × V)), H2 a = some (exo a C (some d)) ∧ H2 d = some (exd d fs) ∧ H1 d = none ∧ W (.ref C) (some d) σ (upd (del H2 a) d (.xd fs))) (fun _ _ _ => False)
def tRse (K : PySem.W.Frag) (C : Addr) (te : TE) (W : WX) : TS := fun _ σ H => te σ H (rseQ K C σ W)
theorem rseQ_of {K : PySem.W.Frag} {C : Addr} {σ : L2.St} {W : WX} {v : V} {H1 : Hp} (f : FmtV K H1 v) (h : ∀ dx, H1 dx = none → W (.ref C) (some dx) σ (upd H1 dx (.xd [(sValue, v)]))) : rseQ K C σ W v H1 := by
  refine ⟨by simp, fun a na => ⟨a, v, rfl, upd_same, f.new na, fun dx n ne => ⟨rfl, dx, [(sValue, v)], upd_same, ?_, ?_, ?_⟩⟩⟩
  · rw [upd_ne ne, upd_same]
  · rw [upd_ne ne] at n; exact n
  · have n1 : H1 dx = none := by rw [upd_ne ne] at n; exact n
    have e : upd (del (upd (upd (upd H1 a (exo a C none)) dx (exd dx [(sValue, v)])) a (exo a C (some dx))) a) dx (.xd [(sValue, v)]) = upd H1 dx (.xd [(sValue, v)]) := by
      funext b
      by_cases hb : b = dx
      · subst hb; rw [upd_same, upd_same]
      · rw [upd_ne hb, upd_ne hb]
        by_cases ha : b = a
        · subst ha; rw [del_same, na]
        · rw [del_ne ha, upd_ne ha, upd_ne hb, upd_ne ha]
    rw [e]
    exact h dx n1
theorem ps_rse {X : Cx} {W : WX} {file : Str} {C : Addr} {x : Str} {e : Expr} {te : TE} {p p2 p3 : Pos} {k : Nat} (T : XcF file X.K C) (G : XcG X.prog X.K) (hfile : ((X.prog.main.file : Str) == file) = true) (hr : Room (k + 1) X.A) (hc : X.calm = true) (tk : Takes X W) (hg : Gl X x) (hm : X.mg x = some (.ref C))
    (hdb : (x == ("__debug__" : Str)) = false) (he : PE X e te) (hst : starEach [e] X.env = (false, eval e X.env) :: starEach [] X.env) : PS X (.Raise (some (.Call (.Name x p) [e] [] p2)) none p3) (tRse X.K C te W) := by
  obtain ⟨fd, D⟩ := T.iniD
  have F1 : FnOk X.prog X.w X.K X.mg X.base cx0 k (He.ma X.K C sInit) fd [sSelf, sValue] (spI X.K C) := init_ok T G hfile D k
  have hpa : PA X [e] (tCons te tNil) := pa_cons he pa_nil hst
  have pm := pmk_oex (e := e) (es := []) (p := p) (pos := p2) (dvs := []) T.oex T.ini T.inT F1 hr (binds_ini D) .nil (fun _ _ _ _ _ _ _ z => z.elim) hg hm hpa hdb hst
  exact ⟨fun pins s σ H Dn I h => (ps_raise hc tk pm).run pins s σ H Dn I h⟩

/-! ### try: .. except X as n: .. -/
section
variable {X : Cx} {pins pins' : List (Addr × Obj)} {σ σ' : L2.St} {H H' : Hp} {s sI : Shared}
/-- the context of an except suite, the exception known as a value -/
abbrev hotX (X : Cx) (a : Addr) : Cx := { X with A := X.A.mark (some (.ref a)), calm := false, xe := fun _ _ => False }
theorem hot_ok (ok : X.Ok) (a : Addr) : (hotX X a).Ok :=
  ⟨ok.mod, ok.kind, ok.glob, ok.blt, ok.above, ok.inj, ok.has, ok.cab, (fun z => absurd (show false = true from z) Bool.false_ne_true), ok.frames, ok.stk, ok.exf, ok.bs, ok.bsz, ok.noex, ok.exfs, ok.funs, ok.frf⟩
theorem inv_hot (I : L2.Inv X pins σ H s) (a : Addr) : L2.Inv (hotX X a) pins σ H s :=
  ⟨hot_ok I.ok a, I.os, I.bare, I.base, I.loc, I.cell, I.free, I.freeC, I.pin, I.hok, I.len⟩
theorem inv_unhot {a : Addr} (I : L2.Inv (hotX X a) pins σ H s) (ok : X.Ok) : L2.Inv X pins σ H s :=
  ⟨ok, I.os, I.bare, I.base, I.loc, I.cell, I.free, I.freeC, I.pin, I.hok, I.len⟩
/-- the exception's object is known from now on -/
theorem inv_exv {a C dx : Addr} {oe : Obj} {vs : Array Value} (J : L2.Inv X pins σ H sI) (I : L2.Inv X pins σ H s) (no : sI.heap.get? a = none) (na : H a = none) (nL : a ≠ X.env.locals) (e1 : s.heap.get? a = some oe) (e2 : oe.cls = .ref C) (e3 : oe.dict = some dx) (e4 : oe.data = .fields vs) :
    L2.Inv X pins σ (upd H a (exv a C dx)) s := by
  have neo : ∀ {b : Addr} {o : HO}, H b = some o → b ≠ a := fun h z => by rw [z, na] at h; cases h
  have old : ∀ {b : Addr} {o : Obj}, X.s_0.heap.get? b = some o → b ∉ X.ex → b ≠ a := fun h hx z => by
    obtain ⟨o', q⟩ := J.base.there _ _ h hx
    rw [z, no] at q; cases q
  refine ⟨I.ok, I.os, I.bare, ⟨I.base.keep, I.base.slot, fun b o h n hx => by rw [upd_ne (old h hx)]; exact I.base.free b o h n hx, I.base.there, fun b xs h => by have := I.base.tups b xs h; rw [upd_ne (neo this)]; exact this, fun b o u h => by have := I.base.frzs b o u h; rw [upd_ne (neo this)]; exact this, fun b ps h => ?_⟩,
    I.loc, I.cell, by rw [upd_ne (Ne.symm nL)]; exact I.free, fun x c h => ?_, fun p hp => ?_, fun b o h => ?_, I.len⟩
  · obtain ⟨more, q⟩ := I.base.tbls b ps h
    exact ⟨more, by rw [upd_ne (neo q)]; exact q⟩
  · rw [upd_ne fun z => ?_]
    · exact I.freeC x c h
    · obtain ⟨v, o, ho, hd⟩ := I.cell x c h
      rw [z, e1] at ho
      cases ho
      rw [e4] at hd; cases hd
  · obtain ⟨h1, h2, h3⟩ := I.pin p hp
    refine ⟨h1, ?_, h3⟩
    obtain ⟨q1, _⟩ := J.pin p hp
    rw [upd_ne fun z => by rw [z, no] at q1; cases q1]
    exact h2
  · by_cases hb : b = a
    · subst hb
      rw [upd_same] at h
      cases h
      exact exv_ok e1 e2 e3 e4
    · rw [upd_ne hb] at h
      exact (I.hok b o h).stay (fun c u _ r => r) (fun c r => by rw [upd_ne (neo r)]; exact r) fun c xs r => by rw [upd_ne (neo r)]; exact r
end
/-- what the clause wishes of an exception of the body: slot i is n's -/
def wX (K : PySem.W.Frag) (c : Value) (i : Nat) (ts : TS) (Wout : WX) (D : Ends) : WX := fun cls d σ H =>
  ∃ b, PySem.W.exmOne K cls c = some b ∧ (b = true → ∃ C dx, cls = .ref C ∧ d = some dx ∧ ∀ a, H a = none → ts { nx := fun σ' H' => D.nx (σ'.set i none) H', rt := D.rt, bk := fun σ' H' => D.bk (σ'.set i none) H', ct := fun σ' H' => D.ct (σ'.set i none) H' } (σ.set i (some (.ref a))) (upd H a (exv a C dx))) ∧
    (b = false → Wout cls d σ H)
section
variable {X : Cx} {x n : Str} {c : Value} {i : Nat} {body suite : List Stmt} {b₀ : Stmt} {np pos pos' : Pos} {tb : WX → TS} {ts : TS} {Wout : WX}
theorem ps_tryX (hs : X.stack = X.env :: X.outer) (hf : X.env.frame = some X.env.locals) (hN : X.N.Nodup) (hi : X.N[i]? = some n) (hln : X.env.kindOf n = some .local) (hc : Names X x c) (tk : Takes X Wout)
    (hb : ∀ (W : WX) (pn : List (Addr × Obj)) (xe : Value → Shared → Prop), Takes (X.tr pn xe) W → PassesOwn (model X.prog X.w) X.A X.env xe → PSs (X.tr pn xe) body (tb W))
    (hsu : ∀ a : Addr, PSs (hotX X a) (b₀ :: suite) ts) :
    PS X (.Try body [.ExceptHandler (some (.Name x np)) (some n) (b₀ :: suite) pos'] [] [] pos) (fun D σ H => tb (wX X.K c i ts Wout D) D σ H) := by
  refine ⟨fun pins s σ H D I h => ?_⟩
  have ok := I.ok
  have hfr : X.A.frames = some (X.env :: X.outer) := by rw [ok.frames, hs]
  have hloc : Loc X.env.scope n := .inl hln
  refine wpAny_Try_except ?_
  refine wpAny_mono ((hb (wX X.K c i ts Wout D) (X.pn ++ pins) (fun e s₁ => wpAny (model X.prog X.w) X.A (noteFrame e X.env) (fun _ s₂ => wpAny (model X.prog X.w) X.A (setFlight e none) (fun _ s₃ =>
    wpAny (model X.prog X.w) X.A (handleBy e X.env [.ExceptHandler (some (.Name x np)) (some n) (b₀ :: suite) pos']) (SP X pins D) X.xe s₃) X.xe s₂) X.xe s₁) (fun u s' xx => ?_) PassesOwn.looking).run [] s σ H D (I.toTry _) h) (fun f s1 hsp => ?_) (fun e s1 he => he)
  · -- the catch
    obtain ⟨a, B, sI, pins', σ', H', cls, d, rfl, J', nb, up, sky, na, os, ag, b, hb1, hyes, hno⟩ := xx
    have J : L2.Inv X pins σ' H' sI := J'.ofTry ok
    have sky' : Sky B (X.env :: X.outer) a (Zc cls d) X.env.locals s'.heap := by rw [← hs]; exact sky
    show wpAny (model X.prog X.w) X.A (noteFrame (.ref a) X.env) _ _ _
    refine Sky.land Zc.steady hfr hf sky' fun h3 fl3 up3 => ?_
    have J3 : L2.Inv X pins σ' H' { s' with heap := h3 } := J.landed nb fl3.1 (up.trans up3) os ag
    obtain ⟨oe3, vs3, he3, hz3, hd3⟩ := fl3.there
    have notFr : ∀ {h : Heap} {o : Obj} {vs : Array Value}, h.FunFrames B (X.env :: X.outer) → h.get? a = some o → o.data = .fields vs → a ∉ frs (X.env :: X.outer) := fun {h o vs} ff e dd hm => by
      obtain ⟨_, o', e', hnf⟩ := ff.mem hm
      rw [e] at e'; cases e'
      exact hnf _ dd
    have nfr := notFr fl3.2.2.1 he3 hd3
    have nL : a ≠ X.env.locals := fun z => nfr (List.mem_filterMap.mpr ⟨X.env, List.mem_cons_self, by rw [hf, z]⟩)
    have no : sI.heap.get? a = none := by
      cases q : sI.heap.get? a with
      | none => rfl
      | some o =>
        have := nb a o q (by rw [hs]; exact nfr)
        rw [fl3.2.1] at this; cases this
    have S3 := inv_hot J3 a
    refine wpAny_handleBy_cons (codeAny_handlers_test ?_) (by intro q; cases q)
    have LT : PySem.W.Looks (model X.prog X.w) h3 (typeOf (.ref a)) cls := fun A Q E s k q => wpAny_typeOf_ref (k _ _ he3) (by rw [hz3.1]; exact q)
    have LM := PySem.W.exm_one (M := model X.prog X.w) (J3.kIn) LT hb1
    have test : ∀ {Q : Value → Shared → Prop} {E : Value → Shared → Prop}, Q c { s' with heap := h3 } → wpAny (model X.prog X.w) (X.A.mark (some (.ref a))) (eval (.Name x np) X.env) Q E { s' with heap := h3 } := fun {Q E} q => by
      obtain ⟨hg, hdbg, hm | ⟨hm, hv, hnn⟩⟩ := hc
      · exact ld_glob (X := hotX X a) S3 hg hm q hdbg
      · exact ld_blt (X := hotX X a) S3 hg hm hv q hnn hdbg
    refine test (LM.here ?_)
    cases b with
    | true =>
      refine codeAny_handlers_suite_as ?_
      refine HandSPX.lands_againZ fl3 fun h4 fl4 up4 => ?_
      have J4 : L2.Inv X pins σ' H' { s' with heap := h4 } := J.landed nb fl4.1 ((up.trans up3).trans up4) os ag
      obtain ⟨oe4, vs4, he4, hz4, hd4⟩ := fl4.there
      obtain ⟨C, dx, rfl, rfl, hy2⟩ := hyes rfl
      have J5 : L2.Inv X pins σ' (upd H' a (exv a C dx)) { s' with heap := h4 } := inv_exv J J4 no na nL he4 hz4.1 hz4.2 hd4
      have S4 := inv_hot J5 a
      refine store_ok (X := hotX X a) (v := .ref a) S4 hN hi hloc rfl (fun s5 S5 => ?_) (.inr hln)
      refine wpAny_mono ((hsu a).run pins s5 _ _ _ S5 (hy2 a na)) (fun f s6 hsp => ?_) (fun _ _ z => False.elim z)
      have end_ : ∀ {σ6 : L2.St} {H6 : Hp} {Q : Shared → Prop}, L2.Inv (hotX X a) pins σ6 H6 s6 → (∀ s7, L2.Inv X pins (σ6.set i none) H6 s7 → Q s7) →
          wpAny (model X.prog X.w) X.A (do bindName X.env n .none; unbindBehindTheSuite X.env n pos') (fun _ s7 => Q s7) X.xe s6 := fun {σ6 H6 Q} S6 hq => gone_ok (inv_unhot S6 ok) hN hi hln hq
      cases f with
      | next =>
        obtain ⟨σ6, H6, S6, q6⟩ := hsp
        exact end_ S6 fun s7 J7 => ⟨_, _, J7, q6⟩
      | brk =>
        obtain ⟨σ6, H6, S6, q6⟩ := hsp
        exact end_ S6 fun s7 J7 => ⟨_, _, J7, q6⟩
      | cont =>
        obtain ⟨σ6, H6, S6, q6⟩ := hsp
        exact end_ S6 fun s7 J7 => ⟨_, _, J7, q6⟩
      | ret u =>
        obtain ⟨v6, σ6, H6, S6, r6, q6⟩ := hsp
        exact end_ S6 fun s7 J7 => ⟨_, _, _, J7, r6, q6⟩
    | false =>
      show wpAny _ X.A (handleBy (.ref a) X.env []) _ _ _
      refine wpAny_handleBy_nil ?_
      obtain ⟨k1, k2, k3, oe, vs, T, oT, ts', he, hz, hd, h1, hr⟩ := id fl3
      unfold PySem.passOn
      refine wpAny_bind (wpAny_field he hd h1 ?_)
      rw [if_neg (show ¬ ((Value.ref T == Value.none) = true) from by simp)]
      have fin : wpAny (model X.prog X.w) X.A (setFlight (.ref a) X.env.frame) (fun _ s4 => wpAny (model X.prog X.w) X.A (throw (.ref a) : Sem Flow) (SP X pins D) X.xe s4) X.xe { s' with heap := h3 } := by
        rw [hf]
        refine HandSPX.setFlight_upZ fl3 fun h4 hh4 up4 => wpAny_throw (tk _ _ ?_)
        exact ⟨a, B, sI, pins, σ', H', cls, d, rfl, J, nb, (up.trans up3).trans up4, .inr (.inr (by rw [hs]; exact hh4)), na, os, ag, hno rfl⟩
      first
        | exact wpAny_bind (wpAny_pure (wpAny_bind fin))
        | exact wpAny_bind fin
  · cases f with
    | next =>
      obtain ⟨σ', H', J', q⟩ := hsp
      exact wpAny_execs_nil ⟨σ', H', J'.ofTry ok, q⟩
    | brk =>
      obtain ⟨σ', H', J', q⟩ := hsp
      exact ⟨σ', H', J'.ofTry ok, q⟩
    | cont =>
      obtain ⟨σ', H', J', q⟩ := hsp
      exact ⟨σ', H', J'.ofTry ok, q⟩
    | ret u =>
      obtain ⟨v, σ', H', J', r, q⟩ := hsp
      exact ⟨v, σ', H', J'.ofTry ok, r, q⟩
end
end Z

set_option Elab.async false
set_option linter.all false
set_option maxRecDepth 100000
set_option maxHeartbeats 4000000
/-! ZT0: dicts whose keys are tuples of numbers: how they lie in the heap. -/
namespace Z
open PySem L2 PyProof.Rows
mutual
/-- a key in the library's words -/
def keyN : D → NestedKey
  | .int i => .num i
  | .tup _ xs => .tup (keyNL xs)
  | _ => .none
def keyNL : List D → List NestedKey
  | [] => []
  | x :: xs => keyN x :: keyNL xs
end
mutual
theorem hash_keyN (w w' : World) : ∀ d : D, (keyN d).hash w = (keyN d).hash w'
  | .int i => by simp only [keyN, NestedKey.hash]
  | .tup _ xs => by simp only [keyN, NestedKey.hash, hash_keyNL w w' xs]
  | .non => by simp only [keyN, NestedKey.hash]
  | .bl _ => by simp only [keyN, NestedKey.hash]
  | .str _ => by simp only [keyN, NestedKey.hash]
  | .lst _ _ => by simp only [keyN, NestedKey.hash]
  | .dic _ _ => by simp only [keyN, NestedKey.hash]
  | .exc _ _ => by simp only [keyN, NestedKey.hash]
  | .obj _ _ _ => by simp only [keyN, NestedKey.hash]
  | .td _ _ => by simp only [keyN, NestedKey.hash]
theorem hash_keyNL (w w' : World) : ∀ d : List D, NestedKey.hashes w (keyNL d) = NestedKey.hashes w' (keyNL d)
  | [] => by simp only [keyNL, NestedKey.hashes]
  | x :: xs => by simp only [keyNL, NestedKey.hashes, hash_keyN w w' x, hash_keyNL w w' xs]
end
mutual
theorem depth_keyN : ∀ (d : D) (n : Nat), keyOk d n = true → (keyN d).depth ≤ n
  | .non, n, _ => by simp only [keyN, NestedKey.depth]; omega
  | .int i, n, _ => by simp only [keyN, NestedKey.depth]; omega
  | .tup _ xs, n, h => by
    simp only [keyOk, Bool.and_eq_true, decide_eq_true_eq] at h
    have := depth_keyNL xs (n - 1) h.2
    simp only [keyN, NestedKey.depth]; omega
  | .bl _, n, h => by simp [keyOk] at h
  | .str _, n, h => by simp [keyOk] at h
  | .lst _ _, n, h => by simp [keyOk] at h
  | .dic _ _, n, h => by simp [keyOk] at h
  | .exc _ _, n, h => by simp [keyOk] at h
  | .obj _ _ _, n, h => by simp [keyOk] at h
  | .td _ _, n, h => by simp [keyOk] at h
theorem depth_keyNL : ∀ (d : List D) (n : Nat), keyOkL d n = true → NestedKey.depthAll (keyNL d) ≤ n
  | [], n, _ => by simp only [keyNL, NestedKey.depthAll]; omega
  | x :: xs, n, h => by
    simp only [keyOkL, Bool.and_eq_true] at h
    have h1 := depth_keyN x n h.1
    have h2 := depth_keyNL xs n h.2
    simp only [keyNL, NestedKey.depthAll]; omega
end
mutual
theorem eqB_keyN : ∀ (a b : D) (n m : Nat), keyOk a n = true → keyOk b m = true → eqB a b = NestedKey.beq (keyN a) (keyN b)
  | .non, b, n, m, h, k => by
    cases b <;> first | (simp only [keyOk, Bool.false_eq_true] at k; done) | simp only [eqB, keyN, NestedKey.beq]
  | .int i, b, n, m, h, k => by
    cases b <;> first | (simp only [keyOk, Bool.false_eq_true] at k; done) | (simp only [eqB, keyN, NestedKey.beq]; try rfl)
  | .tup _ xs, b, n, m, h, k => by
    cases b with
    | tup _ ys =>
      simp only [keyOk, Bool.and_eq_true] at h k
      simp only [eqB, keyN, NestedKey.beq]
      exact eqB_keyNL xs ys _ _ h.2 k.2
    | non => simp only [eqB, keyN, NestedKey.beq]
    | int _ => simp only [eqB, keyN, NestedKey.beq]
    | _ => simp only [keyOk, Bool.false_eq_true] at k
  | .bl _, _, n, _, h, _ => by simp [keyOk] at h
  | .str _, _, n, _, h, _ => by simp [keyOk] at h
  | .lst _ _, _, n, _, h, _ => by simp [keyOk] at h
  | .dic _ _, _, n, _, h, _ => by simp [keyOk] at h
  | .exc _ _, _, n, _, h, _ => by simp [keyOk] at h
  | .obj _ _ _, _, n, _, h, _ => by simp [keyOk] at h
  | .td _ _, _, n, _, h, _ => by simp [keyOk] at h
theorem eqB_keyNL : ∀ (a b : List D) (n m : Nat), keyOkL a n = true → keyOkL b m = true → eqBL a b = NestedKey.beqAll (keyNL a) (keyNL b)
  | [], [], _, _, _, _ => by simp only [eqBL, keyNL, NestedKey.beqAll]
  | [], _ :: _, _, _, _, _ => by simp only [eqBL, keyNL, NestedKey.beqAll]
  | _ :: _, [], _, _, _, _ => by simp only [eqBL, keyNL, NestedKey.beqAll]
  | x :: xs, y :: ys, n, m, h, k => by
    simp only [keyOkL, Bool.and_eq_true] at h k
    simp only [eqBL, keyNL, NestedKey.beqAll, eqB_keyN x y _ _ h.1 k.1, eqB_keyNL xs ys _ _ h.2 k.2]
end
theorem keyT_ok {d : D} (h : keyT d = true) : keyOk d 8 = true ∧ ∃ m xs, d = .tup m xs := by
  unfold keyT at h
  split at h
  · rename_i m xs
    exact ⟨by simp only [keyOk, h]; rfl, m, xs, rfl⟩
  · cases h
theorem eqB_key {a b : D} (h : keyT a = true) (k : keyT b = true) : eqB a b = decide (keyN a = keyN b) := by
  rw [NestedKey.decide_eq]
  exact eqB_keyN a b 8 8 (keyT_ok h).1 (keyT_ok k).1
/-- the entries -/
def tdX : List D → List Addr → List Value → List (NestedKey × Addr × Value)
  | k :: ks, a :: as, u :: us => (keyN k, a, u) :: tdX ks as us
  | _, _, _ => []
theorem tdX_len : ∀ (ks : List D) (as : List Addr) (us : List Value), as.length = ks.length → us.length = ks.length → (tdX ks as us).length = ks.length
  | [], _, _, _, _ => by simp [tdX]
  | k :: ks, [], _, h, _ => by simp at h
  | k :: ks, _ :: _, [], _, h => by simp at h
  | k :: ks, a :: as, u :: us, h1, h2 => by simp [tdX, tdX_len ks as us (by simpa using h1) (by simpa using h2)]
theorem tdX_keys : ∀ (ks : List D) (as : List Addr) (us : List Value), as.length = ks.length → us.length = ks.length → (tdX ks as us).map (·.1) = ks.map keyN
  | [], _, _, _, _ => by simp [tdX]
  | k :: ks, [], _, h, _ => by simp at h
  | k :: ks, _ :: _, [], _, h => by simp at h
  | k :: ks, a :: as, u :: us, h1, h2 => by simp [tdX, tdX_keys ks as us (by simpa using h1) (by simpa using h2)]
theorem atKey_cons {x : NestedKey × Addr × Value} {l : List (NestedKey × Addr × Value)} {k : NestedKey} : atKey (x :: l) k = if x.1 = k then some x.2 else atKey l k := by
  unfold atKey
  rw [List.find?_cons]
  by_cases h : x.1 = k
  · simp [h]
  · simp [h]
/-- looking up -/
theorem tdX_at {d : D} (hd : keyT d = true) : ∀ (ks : List D) (as : List Addr) (us : List Value), ks.all keyT = true → as.length = ks.length → us.length = ks.length →
    atKey (tdX ks as us) (keyN d) = (tdI ks d).bind fun j => (as[j]?).bind fun a => (us[j]?).map fun u => (a, u)
  | [], _, _, _, _, _ => by simp [tdX, tdI, atKey]
  | k :: ks, [], _, _, h, _ => by simp at h
  | k :: ks, _ :: _, [], _, _, h => by simp at h
  | k :: ks, a :: as, u :: us, hk, h1, h2 => by
    simp only [List.all_cons, Bool.and_eq_true] at hk
    rw [tdX, atKey_cons, tdI, eqB_key hk.1 hd]
    by_cases h : keyN k = keyN d
    · simp [h]
    · simp only [h, if_false, decide_false, Bool.false_eq_true]
      rw [tdX_at hd ks as us hk.2 (by simpa using h1) (by simpa using h2)]
      cases tdI ks d <;> simp
theorem tdI_lt {d : D} : ∀ {ks : List D} {j : Nat}, tdI ks d = some j → j < ks.length
  | [], _, h => by cases h
  | k :: ks, j, h => by
    unfold tdI at h
    split at h
    · cases h; simp
    · rw [Option.map_eq_some_iff] at h
      obtain ⟨i, hi, rfl⟩ := h
      have := tdI_lt hi
      simp; omega
theorem tdX_some {d : D} (hd : keyT d = true) {ks : List D} {as : List Addr} {us : List Value} (hk : ks.all keyT = true) (h1 : as.length = ks.length) (h2 : us.length = ks.length) {j : Nat} (hj : tdI ks d = some j) :
    ∃ a u, as[j]? = some a ∧ us[j]? = some u ∧ atKey (tdX ks as us) (keyN d) = some (a, u) := by
  have l := tdI_lt hj
  refine ⟨as[j]'(by omega), us[j]'(by omega), by simp, by simp, ?_⟩
  rw [tdX_at hd ks as us hk h1 h2, hj]
  simp [h1, h2, l]
theorem tdX_isSome {d : D} (hd : keyT d = true) {ks : List D} {as : List Addr} {us : List Value} (hk : ks.all keyT = true) (h1 : as.length = ks.length) (h2 : us.length = ks.length) :
    (atKey (tdX ks as us) (keyN d)).isSome = (tdI ks d).isSome := by
  cases hj : tdI ks d with
  | none => rw [tdX_at hd ks as us hk h1 h2, hj]; rfl
  | some j => obtain ⟨a, u, _, _, e⟩ := tdX_some hd hk h1 h2 hj; rw [e]; rfl
theorem tdX_app : ∀ (ks : List D) (as : List Addr) (us : List Value) (k : D) (a : Addr) (u : Value), as.length = ks.length → us.length = ks.length → tdX ks as us ++ [(keyN k, a, u)] = tdX (ks ++ [k]) (as ++ [a]) (us ++ [u])
  | [], [], [], k, a, u, _, _ => rfl
  | [], _ :: _, _, _, _, _, h, _ => by simp at h
  | [], [], _ :: _, _, _, _, _, h => by simp at h
  | x :: ks, [], _, _, _, _, h, _ => by simp at h
  | x :: ks, _ :: _, [], _, _, _, _, h => by simp at h
  | x :: ks, y :: as, z :: us, k, a, u, h1, h2 => by
    simp only [tdX, List.cons_append]
    rw [tdX_app ks as us k a u (by simpa using h1) (by simpa using h2)]
theorem tdX_put {d : D} (hd : keyT d = true) (v : Value) : ∀ {ks : List D} {as : List Addr} {us : List Value} {j : Nat}, ks.all keyT = true → (ks.map keyN).Nodup → as.length = ks.length → us.length = ks.length → tdI ks d = some j →
    (tdX ks as us).map (putAt (keyN d) v) = tdX ks as (us.set j v)
  | [], _, _, _, _, _, _, _, h => by cases h
  | k :: ks, [], _, _, _, _, h, _, _ => by simp at h
  | k :: ks, _ :: _, [], _, _, _, _, h, _ => by simp at h
  | k :: ks, a :: as, u :: us, j, hk, hn, h1, h2, hj => by
    simp only [List.all_cons, Bool.and_eq_true] at hk
    rw [List.map_cons, List.nodup_cons] at hn
    unfold tdI at hj
    rw [eqB_key hk.1 hd] at hj
    by_cases h : keyN k = keyN d
    · simp only [h, decide_true, if_true, Option.some.injEq] at hj
      subst hj
      rw [tdX, List.map_cons, map_putAt_of_not_mem _ _ _ (by rw [tdX_keys ks as us (by simpa using h1) (by simpa using h2), ← h]; exact hn.1)]
      simp [putAt, h, tdX]
    · simp only [h, decide_false, Bool.false_eq_true, if_false, Option.map_eq_some_iff] at hj
      obtain ⟨i, hi, rfl⟩ := hj
      rw [tdX, List.map_cons, tdX_put hd v hk.2 hn.2 (by simpa using h1) (by simpa using h2) hi]
      simp [putAt, h, tdX]
/-- at a: a dict, its keys at as, its values vs -/
def tdO (a : Addr) (ks : List D) (as : List Addr) (vs : List V) : HO := .ext fun h => (a == sysModules) = false ∧ ∃ (us : List Value) (o : Obj) (es : Array DictEntry) (ep : Nat), Vals vs us ∧ h.get? a = some o ∧ o.ExactDict ∧ o.data = .dict es ep ∧
  ∀ w : World, es.toList = (tdX ks as us).map fun x => ⟨x.1.hash w, .ref x.2.1, x.2.2⟩
section
variable {P : Program} {w : World} {H : Hp} {h : Heap} {a : Addr} {ks : List D} {as : List Addr} {vs : List V}
theorem tdO_at (x : HOk P w H h) (e : H a = some (tdO a ks as vs)) : (a == sysModules) = false ∧ ∃ (us : List Value) (o : Obj) (es : Array DictEntry) (ep : Nat), Vals vs us ∧ h.get? a = some o ∧ o.ExactDict ∧ o.data = .dict es ep ∧
    es.toList = (tdX ks as us).map (entryOfKey (nestedKind P w)) := by
  have z : ObjOk P w H h a (tdO a ks as vs) := x a _ e
  obtain ⟨⟨z1, us, o, es, ep, z2, z3, z4, z5, z6⟩, _⟩ := z
  exact ⟨z1, us, o, es, ep, z2, z3, z4, z5, z6 w⟩
theorem tdX_hash (w w' : World) : ∀ (ks : List D) (as : List Addr) (us : List Value), (tdX ks as us).map (fun x => (⟨x.1.hash w, .ref x.2.1, x.2.2⟩ : DictEntry)) = (tdX ks as us).map fun x => ⟨x.1.hash w', .ref x.2.1, x.2.2⟩
  | [], _, _ => by simp [tdX]
  | k :: ks, [], _ => by simp [tdX]
  | k :: ks, _ :: _, [] => by simp [tdX]
  | k :: ks, a :: as, u :: us => by
    simp only [tdX, List.map_cons, tdX_hash w w' ks as us, hash_keyN w w' k]
theorem tdO_ok {us : List Value} (hs : (a == sysModules) = false) (hv : Vals vs us) (d : h.DictOfH (nestedKind P w) a (tdX ks as us)) : ObjOk P w H h a (tdO a ks as vs) := by
  obtain ⟨o, es, ep, h1, h2, h3, h4, _, _⟩ := d
  refine ⟨⟨hs, us, o, es, ep, hv, h1, h2, h3, fun w' => ?_⟩, ⟨o, h1⟩, fun g1 g2 ⟨z1, us, o, es, ep, z2, z3, z4, z5, z6⟩ k => ⟨z1, us, o, es, ep, z2, k _ z3, z4, z5, z6⟩⟩
  rw [h4]
  exact tdX_hash w w' ks as us
end
end Z

set_option Elab.async false
set_option linter.all false
set_option maxRecDepth 100000
set_option maxHeartbeats 2000000
/-! Z2: how data lie in the heap: a frozen part that only grows, and owned objects apart. -/
namespace Z
open PySem L2

/-! ### lists of addresses -/
def NS (a b : List Addr) : Prop := (∀ x ∈ a, x ∈ b) ∧ (b.Nodup → a.Nodup)
theorem NS.refl (a : List Addr) : NS a a := ⟨fun _ h => h, fun h => h⟩
theorem NS.trans {a b c : List Addr} (h : NS a b) (k : NS b c) : NS a c := ⟨fun x hx => k.1 x (h.1 x hx), fun n => h.2 (k.2 n)⟩
theorem NS.sub {a b : List Addr} (h : a.Sublist b) : NS a b := ⟨fun _ hx => h.subset hx, fun n => n.sublist h⟩
theorem NS.perm {a b : List Addr} (h : a.Perm b) : NS a b := ⟨fun _ hx => h.mem_iff.mp hx, fun n => h.nodup_iff.mpr n⟩
theorem NS.left {a b : List Addr} (c : List Addr) (h : NS a b) : NS (c ++ a) (c ++ b) := by
  refine ⟨fun x hx => ?_, fun n => ?_⟩
  · rcases List.mem_append.mp hx with z | z
    · exact List.mem_append_left _ z
    · exact List.mem_append_right _ (h.1 x z)
  · rw [List.nodup_append] at n ⊢
    exact ⟨n.1, h.2 n.2.1, fun x hx y hy => n.2.2 x hx y (h.1 y hy)⟩
theorem NS.swap (a b : List Addr) : NS (a ++ b) (b ++ a) := .perm List.perm_append_comm
theorem NS.right {a b : List Addr} (c : List Addr) (h : NS a b) : NS (a ++ c) (b ++ c) :=
  (NS.swap a c).trans ((h.left c).trans (NS.swap c b))
theorem NS.both {a b c d : List Addr} (h : NS a b) (k : NS c d) : NS (a ++ c) (b ++ d) := (h.right c).trans (k.left b)
theorem NS.dropL (a b : List Addr) : NS b (a ++ b) := .sub (List.sublist_append_right a b)
theorem NS.dropR (a b : List Addr) : NS a (a ++ b) := .sub (List.sublist_append_left a b)
theorem NS.mid (a b c : List Addr) : NS (a ++ (b ++ c)) (b ++ (a ++ c)) := by
  refine .perm ?_
  rw [← List.append_assoc, ← List.append_assoc]
  exact List.Perm.append_right c List.perm_append_comm
theorem nodup_app {a b : List Addr} (h : (a ++ b).Nodup) : a.Nodup ∧ b.Nodup ∧ ∀ x ∈ a, x ∉ b := by
  rw [List.nodup_append] at h
  exact ⟨h.1, h.2.1, fun x hx hb => h.2.2 x hx x hb rfl⟩

/-! ### Same: what was tracked is as it was -/
theorem same_rd {H H' : Hp} {a : Addr} {u : HO} (e : Same H H') (h : Rd H a u) : Rd H' a u := by
  rcases h with h | ⟨o, h⟩
  · exact .inl (e a _ h)
  · exact .inr ⟨o, e a _ h⟩
theorem same_l {K : PySem.W.Frag} {H H' : Hp} {a : Addr} {xs : List V} (e : Same H H') (h : SqL K H a xs) : SqL K H' a xs := by
  rcases h with h | h
  · exact .inl (same_rd e h)
  · exact .inr h
theorem same_t {K : PySem.W.Frag} {H H' : Hp} {a : Addr} {xs : List V} (e : Same H H') (h : SqT K H a xs) : SqT K H' a xs := by
  rcases h with h | h
  · exact .inl (same_rd e h)
  · exact .inr h

/-! ### frozen data -/
def stV (s : List Nat) : V := .str ⟨s.toArray⟩
/-- the class k's value -/
def clV (K : PySem.W.Frag) (k : Nat) : Value := if k = 100 then .type "ValueError" else .ref (caK K k)
/-- what is known of the class c and of those that it may be asked for -/
structure XcK (K : PySem.W.Frag) (c : Nat) : Prop where
  f : ∃ file, XcF file K (caK K c)
  k : ∀ k, (k = 100 ∨ (k < 9 ∧ PySem.W.nsIn K mainGlobals (clsNm k) = some (some (.ref (caK K k))))) → PySem.W.kitOne K (.ref (caK K c)) (clV K k) = some (subX c k) ∧ PySem.W.exmOne K (.ref (caK K c)) (clV K k) = some (subX c k)
mutual
inductive Rf (K : PySem.W.Frag) (F : Hp) : V → D → Prop
  | non : Rf K F .non .non
  | bl (b : Bool) : Rf K F (.bl b) (.bl b)
  | int (i : Int) : Rf K F (.int i) (.int i)
  | str (s : List Nat) : Rf K F (stV s) (.str s)
  | tup {a : Addr} {xs : List V} {ds : List D} : SqT K F a xs → Rfs K F xs ds → Rf K F (.ref a) (.tup false ds)
  | lst {a : Addr} {xs : List V} {ds : List D} : SqL K F a xs → Rfs K F xs ds → Rf K F (.ref a) (.lst false ds)
  | exc {a dx : Addr} {c : Nat} {v : V} {d : D} : F a = some (exv a (caK K c) dx) → F dx = some (.xd [(sValue, v)]) → XcK K c → Rf K F v d → Rf K F (.ref a) (.exc c d)
inductive Rfs (K : PySem.W.Frag) (F : Hp) : List V → List D → Prop
  | nil : Rfs K F [] []
  | cons {v : V} {vs : List V} {d : D} {ds : List D} : Rf K F v d → Rfs K F vs ds → Rfs K F (v :: vs) (d :: ds)
end
/-- the entries of a dict with text keys -/
def kvL (ks : List (List Nat)) (xs : List V) : List (Key × V) := ks.zipWith (fun k v => (.inr ⟨k.toArray⟩, v)) xs
/-! owned data: at the addresses fp alone -/
mutual
inductive Ro (K : PySem.W.Frag) (F H : Hp) : V → D → List Addr → Prop
  | frz {v : V} {d : D} : Rf K F v d → Ro K F H v d []
  | tup {a : Addr} {xs : List V} {ds : List D} {fp : List Addr} : H a = some (.tup xs) → Ros K F H xs ds fp → Ro K F H (.ref a) (.tup true ds) (a :: fp)
  | lst {a : Addr} {xs : List V} {ds : List D} {fp : List Addr} : H a = some (.lst xs) → Ros K F H xs ds fp → Ro K F H (.ref a) (.lst true ds) (a :: fp)
  | dic {a : Addr} {ks : List (List Nat)} {xs : List V} {ds : List D} {fp : List Addr} : H a = some (.dK (kvL ks xs)) → ks.length = ds.length → ks.Nodup → Ros K F H xs ds fp → Ro K F H (.ref a) (.dic ks ds) (a :: fp)
  | td {a : Addr} {ks ds : List D} {as : List Addr} {vs : List V} : H a = some (tdO a ks as vs) → Rfs K F (as.map V.ref) ks → ks.all keyT = true → (ks.map keyN).Nodup → ks.length = ds.length → ks.length ≤ 16777216 → Rfs K F vs ds → ds.all scalD = true → Ro K F H (.ref a) (.td ks ds) [a]
inductive Ros (K : PySem.W.Frag) (F H : Hp) : List V → List D → List Addr → Prop
  | nil : Ros K F H [] [] []
  | cons {v : V} {vs : List V} {d : D} {ds : List D} {f fp : List Addr} : Ro K F H v d f → Ros K F H vs ds fp → Ros K F H (v :: vs) (d :: ds) (f ++ fp)
end
section
variable {K : PySem.W.Frag}
mutual
theorem Rf.mono {F F' : Hp} (e : Same F F') : ∀ {v : V} {d : D}, Rf K F v d → Rf K F' v d
  | _, _, .non => .non
  | _, _, .bl b => .bl b
  | _, _, .int i => .int i
  | _, _, .str s => .str s
  | _, _, .tup h r => .tup (same_t e h) (Rfs.mono e r)
  | _, _, .lst h r => .lst (same_l e h) (Rfs.mono e r)
  | _, _, .exc h k x r => .exc (e _ _ h) (e _ _ k) x (Rf.mono e r)
theorem Rfs.mono {F F' : Hp} (e : Same F F') : ∀ {v : List V} {d : List D}, Rfs K F v d → Rfs K F' v d
  | _, _, .nil => .nil
  | _, _, .cons h r => .cons (Rf.mono e h) (Rfs.mono e r)
end
mutual
theorem Rf.fzn {F : Hp} : ∀ {v : V} {d : D}, Rf K F v d → fzn d = true
  | _, _, .non => rfl
  | _, _, .bl b => rfl
  | _, _, .int i => rfl
  | _, _, .str s => rfl
  | _, _, .tup h r => by simp [Z.fzn, Rfs.fzn r]
  | _, _, .lst h r => by simp [Z.fzn, Rfs.fzn r]
  | _, _, .exc h k x r => by simp [Z.fzn, Rf.fzn r]
theorem Rfs.fzn {F : Hp} : ∀ {v : List V} {d : List D}, Rfs K F v d → fznL d = true
  | _, _, .nil => rfl
  | _, _, .cons h r => by simp [Z.fznL, Rf.fzn h, Rfs.fzn r]
end
mutual
theorem frz_id : ∀ d : D, fzn d = true → frz d = d
  | .non, _ => rfl
  | .bl _, _ => rfl
  | .int _, _ => rfl
  | .str _, _ => rfl
  | .tup m xs, h => by
    simp only [fzn, Bool.and_eq_true, Bool.not_eq_true'] at h
    simp only [frz, frzL_id xs h.2, h.1]
  | .lst m xs, h => by
    simp only [fzn, Bool.and_eq_true, Bool.not_eq_true'] at h
    simp only [frz, frzL_id xs h.2, h.1]
  | .dic _ _, h => by cases h
  | .obj _ _ _, h => by cases h
  | .td _ _, h => by cases h
  | .exc _ _, h => rfl
theorem frzL_id : ∀ xs : List D, fznL xs = true → frzL xs = xs
  | [], _ => rfl
  | x :: xs, h => by
    simp only [fznL, Bool.and_eq_true] at h
    simp only [frzL, frz_id x h.1, frzL_id xs h.2]
end
mutual
theorem Ro.frozen {F H : Hp} : ∀ {v : V} {d : D} {fp : List Addr}, Ro K F H v d fp → fzn d = true → Rf K F v d ∧ fp = []
  | _, _, _, .frz h, _ => ⟨h, rfl⟩
  | _, _, _, .tup h r, e => by cases e
  | _, _, _, .lst h r, e => by cases e
  | _, _, _, .dic h _ _ r, e => by cases e
  | _, _, _, .td h _ _ _ _ _ _ _, e => by cases e
theorem Ros.frozen {F H : Hp} : ∀ {v : List V} {d : List D} {fp : List Addr}, Ros K F H v d fp → fznL d = true → Rfs K F v d ∧ fp = []
  | _, _, _, .nil, _ => ⟨.nil, rfl⟩
  | _, _, _, .cons h r, e => by
    simp only [fznL, Bool.and_eq_true] at e
    obtain ⟨a, rfl⟩ := Ro.frozen h e.1
    obtain ⟨b, rfl⟩ := Ros.frozen r e.2
    exact ⟨.cons a b, rfl⟩
end
theorem Rfs.ros {F H : Hp} : ∀ {v : List V} {d : List D}, Rfs K F v d → Ros K F H v d []
  | _, _, .nil => .nil
  | _, _, .cons h r => .cons (f := []) (fp := []) (.frz h) (Rfs.ros r)
mutual
theorem Ro.mono {F F' H H' : Hp} (e : Same F F') : ∀ {v : V} {d : D} {fp : List Addr}, Ro K F H v d fp → (∀ p ∈ fp, H' p = H p) → Ro K F' H' v d fp
  | _, _, _, .frz h, _ => .frz (h.mono e)
  | _, _, _, .tup h r, k => .tup ((k _ (List.mem_cons_self ..)).trans h) (Ros.mono e r fun p hp => k p (List.mem_cons_of_mem _ hp))
  | _, _, _, .lst h r, k => .lst ((k _ (List.mem_cons_self ..)).trans h) (Ros.mono e r fun p hp => k p (List.mem_cons_of_mem _ hp))
  | _, _, _, .dic h l n r, k => .dic ((k _ (List.mem_cons_self ..)).trans h) l n (Ros.mono e r fun p hp => k p (List.mem_cons_of_mem _ hp))
  | _, _, _, .td h r t n l z v s, k => .td ((k _ (List.mem_cons_self ..)).trans h) (Rfs.mono e r) t n l z (Rfs.mono e v) s
theorem Ros.mono {F F' H H' : Hp} (e : Same F F') : ∀ {v : List V} {d : List D} {fp : List Addr}, Ros K F H v d fp → (∀ p ∈ fp, H' p = H p) → Ros K F' H' v d fp
  | _, _, _, .nil, _ => .nil
  | _, _, _, .cons h r, k => .cons (Ro.mono e h fun p hp => k p (List.mem_append_left _ hp)) (Ros.mono e r fun p hp => k p (List.mem_append_right _ hp))
end
mutual
theorem Ro.dom {F H : Hp} : ∀ {v : V} {d : D} {fp : List Addr}, Ro K F H v d fp → ∀ p ∈ fp, H p ≠ none
  | _, _, _, .frz h, p, hp => by cases hp
  | _, _, _, .tup h r, p, hp => by
    rcases List.mem_cons.mp hp with z | z
    · rw [z, h]; intro q; cases q
    · exact Ros.dom r p z
  | _, _, _, .lst h r, p, hp => by
    rcases List.mem_cons.mp hp with z | z
    · rw [z, h]; intro q; cases q
    · exact Ros.dom r p z
  | _, _, _, .dic h _ _ r, p, hp => by
    rcases List.mem_cons.mp hp with z | z
    · rw [z, h]; intro q; cases q
    · exact Ros.dom r p z
  | _, _, _, .td h _ _ _ _ _ _ _, p, hp => by
    rw [List.mem_singleton.mp hp, h]; intro q; cases q
theorem Ros.dom {F H : Hp} : ∀ {v : List V} {d : List D} {fp : List Addr}, Ros K F H v d fp → ∀ p ∈ fp, H p ≠ none
  | _, _, _, .nil, p, hp => by cases hp
  | _, _, _, .cons h r, p, hp => by
    rcases List.mem_append.mp hp with z | z
    · exact Ro.dom h p z
    · exact Ros.dom r p z
end
theorem Ros.len {F H : Hp} : ∀ {v : List V} {d : List D} {fp : List Addr}, Ros K F H v d fp → v.length = d.length
  | _, _, _, .nil => rfl
  | _, _, _, .cons _ r => by simp [Ros.len r]
theorem Rfs.len {F : Hp} : ∀ {v : List V} {d : List D}, Rfs K F v d → v.length = d.length
  | _, _, .nil => rfl
  | _, _, .cons _ r => by simp [Rfs.len r]
/-! what is read in the heap as it stands -/
mutual
theorem Rf.dp {F H : Hp} (e : Same F H) : ∀ {v : V} {d : D}, Rf K F v d → canP d = true → Dp K H v (toPy d)
  | _, _, .non, _ => by simp only [toPy]; exact .non
  | _, _, .bl b, _ => by simp only [toPy]; exact .bl b
  | _, _, .int i, _ => by simp only [toPy]; exact .int i
  | _, _, .str s, _ => by simp only [toPy]; exact .str _
  | _, _, .tup h r, c => by simp only [toPy]; exact .tup (same_t e h) (Rfs.dp e r (by simpa [canP] using c))
  | _, _, .lst h r, c => by simp only [toPy]; exact .lst (same_l e h) (Rfs.dp e r (by simpa [canP] using c))
  | _, _, .exc _ _ _ _, c => by cases c
theorem Rfs.dp {F H : Hp} (e : Same F H) : ∀ {v : List V} {d : List D}, Rfs K F v d → canPL d = true → DpAll K H v (toPyL d)
  | _, _, .nil, _ => by simp only [toPyL]; exact .nil
  | _, _, .cons h r, c => by
    simp only [canPL, Bool.and_eq_true] at c
    simp only [toPyL]; exact .cons (Rf.dp e h c.1) (Rfs.dp e r c.2)
end
mutual
theorem Ro.dp {F H : Hp} (e : Same F H) : ∀ {v : V} {d : D} {fp : List Addr}, Ro K F H v d fp → canP d = true → Dp K H v (toPy d)
  | _, _, _, .frz h, c => h.dp e c
  | _, _, _, .tup h r, c => by simp only [toPy]; exact .tup (SqT.of h) (Ros.dp e r (by simpa [canP] using c))
  | _, _, _, .lst h r, c => by simp only [toPy]; exact .lst (SqL.of h) (Ros.dp e r (by simpa [canP] using c))
  | _, _, _, .dic _ _ _ _, c => by cases c
  | _, _, _, .td _ _ _ _ _ _ _ _, c => by cases c
theorem Ros.dp {F H : Hp} (e : Same F H) : ∀ {v : List V} {d : List D} {fp : List Addr}, Ros K F H v d fp → canPL d = true → DpAll K H v (toPyL d)
  | _, _, _, .nil, _ => by simp only [toPyL]; exact .nil
  | _, _, _, .cons h r, c => by
    simp only [canPL, Bool.and_eq_true] at c
    simp only [toPyL]; exact .cons (Ro.dp e h c.1) (Ros.dp e r c.2)
end
mutual
theorem flat_can : ∀ (d : D) {n : Nat}, flatD d n = true → canP d = true
  | .non, _, _ => rfl
  | .bl _, _, _ => rfl
  | .int _, _, _ => rfl
  | .str _, _, _ => rfl
  | .tup _ xs, n, h => by
    simp only [flatD, Bool.and_eq_true] at h
    simp only [canP]; exact flat_canL xs h.2
  | .lst _ xs, n, h => by
    simp only [flatD, Bool.and_eq_true] at h
    simp only [canP]; exact flat_canL xs h.2
  | .dic _ _, _, h => by simp [flatD] at h
  | .td _ _, _, h => by simp [flatD] at h
  | .obj _ _ _, _, h => by simp [flatD] at h
  | .exc _ _, _, h => by simp [flatD] at h
theorem flat_canL : ∀ (d : List D) {n : Nat}, flatDL d n = true → canPL d = true
  | [], _, _ => rfl
  | x :: xs, n, h => by
    simp only [flatDL, Bool.and_eq_true] at h
    simp only [canPL, flat_can x h.1, flat_canL xs h.2, Bool.and_self]
end
/-! freezing -/
mutual
theorem Ro.freeze {F H F' : Hp} (e : Same F F') : ∀ {v : V} {d : D} {fp : List Addr}, Ro K F H v d fp → canF d = true → (∀ p ∈ fp, F' p = H p) → Rf K F' v (frz d)
  | _, _, _, .frz h, c, _ => by rw [frz_id _ h.fzn]; exact h.mono e
  | _, _, _, .tup h r, c, k => by
    simp only [frz]
    exact .tup (SqT.of ((k _ (List.mem_cons_self ..)).trans h)) (Ros.freeze e r (by simpa [canF] using c) fun p hp => k p (List.mem_cons_of_mem _ hp))
  | _, _, _, .lst h r, c, k => by
    simp only [frz]
    exact .lst (SqL.of ((k _ (List.mem_cons_self ..)).trans h)) (Ros.freeze e r (by simpa [canF] using c) fun p hp => k p (List.mem_cons_of_mem _ hp))
  | _, _, _, .dic _ _ _ _, c, _ => by cases c
  | _, _, _, .td _ _ _ _ _ _ _ _, c, _ => by cases c
theorem Ros.freeze {F H F' : Hp} (e : Same F F') : ∀ {v : List V} {d : List D} {fp : List Addr}, Ros K F H v d fp → canFL d = true → (∀ p ∈ fp, F' p = H p) → Rfs K F' v (frzL d)
  | _, _, _, .nil, _, _ => by simp only [frzL]; exact .nil
  | _, _, _, .cons h r, c, k => by
    simp only [canFL, Bool.and_eq_true] at c
    simp only [frzL]
    exact .cons (Ro.freeze e h c.1 fun p hp => k p (List.mem_append_left _ hp)) (Ros.freeze e r c.2 fun p hp => k p (List.mem_append_right _ hp))
end
/-- the frozen part with the objects at fp -/
def glue (F H : Hp) (fp : List Addr) : Hp := fun p => if p ∈ fp then H p else F p
theorem glue_in {F H : Hp} {fp : List Addr} {p : Addr} (h : p ∈ fp) : glue F H fp p = H p := if_pos h
theorem glue_out {F H : Hp} {fp : List Addr} {p : Addr} (h : p ∉ fp) : glue F H fp p = F p := if_neg h
theorem glue_ext {F H : Hp} {fp : List Addr} (h : ∀ p ∈ fp, F p = none) : Same F (glue F H fp) := fun p o e => by
  by_cases q : p ∈ fp
  · rw [h p q] at e; cases e
  · rw [glue_out q]; exact e
theorem glue_same {F H : Hp} {fp : List Addr} (h : Same F H) : Same (glue F H fp) H := fun p o e => by
  by_cases q : p ∈ fp
  · rw [glue_in q] at e; exact e
  · rw [glue_out q] at e; exact h p o e
/-- values without parts -/
theorem Ro.scal {F H : Hp} {v : V} {d : D} {fp : List Addr} (h : Ro K F H v d fp) (s : scalD d = true) : Rf K F v d ∧ fp = [] := by
  cases h with
  | frz h => exact ⟨h, rfl⟩
  | tup _ _ => cases s
  | lst _ _ => cases s
  | dic _ _ _ _ => cases s
  | td _ _ _ _ _ _ _ _ => cases s
theorem Rf.int_inv {F : Hp} {v : V} {i : Int} (h : Rf K F v (.int i)) : v = .int i := by cases h; rfl
theorem Rf.bl_inv {F : Hp} {v : V} {i : Bool} (h : Rf K F v (.bl i)) : v = .bl i := by cases h; rfl
theorem Rf.str_inv {F : Hp} {v : V} {i : List Nat} (h : Rf K F v (.str i)) : v = stV i := by cases h; rfl
theorem Rf.non_inv {F : Hp} {v : V} (h : Rf K F v .non) : v = .non := by cases h; rfl
theorem Ro.int_inv {F H : Hp} {v : V} {i : Int} {fp : List Addr} (h : Ro K F H v (.int i) fp) : v = .int i := (h.scal rfl).1.int_inv
theorem Ro.bl_inv {F H : Hp} {v : V} {i : Bool} {fp : List Addr} (h : Ro K F H v (.bl i) fp) : v = .bl i := (h.scal rfl).1.bl_inv
theorem Ro.str_inv {F H : Hp} {v : V} {i : List Nat} {fp : List Addr} (h : Ro K F H v (.str i) fp) : v = stV i := (h.scal rfl).1.str_inv
theorem Ro.non_inv {F H : Hp} {v : V} {fp : List Addr} (h : Ro K F H v .non fp) : v = .non := (h.scal rfl).1.non_inv
/-- a list, a tuple that is owned or frozen -/
theorem Ro.lst_inv {F H : Hp} (e : Same F H) {v : V} {m : Bool} {ds : List D} {fp : List Addr} (h : Ro K F H v (.lst m ds) fp) :
    ∃ a xs f2, v = .ref a ∧ SqL K H a xs ∧ Ros K F H xs ds f2 ∧ NS f2 fp := by
  cases h with
  | frz h => cases h with
    | lst h r => exact ⟨_, _, [], rfl, same_l e h, r.ros, .refl _⟩
  | lst h r => exact ⟨_, _, _, rfl, SqL.of h, r, .sub (List.sublist_cons_self ..)⟩
theorem Ro.tup_inv {F H : Hp} (e : Same F H) {v : V} {m : Bool} {ds : List D} {fp : List Addr} (h : Ro K F H v (.tup m ds) fp) :
    ∃ a xs f2, v = .ref a ∧ SqT K H a xs ∧ Ros K F H xs ds f2 ∧ NS f2 fp := by
  cases h with
  | frz h => cases h with
    | tup h r => exact ⟨_, _, [], rfl, same_t e h, r.ros, .refl _⟩
  | tup h r => exact ⟨_, _, _, rfl, SqT.of h, r, .sub (List.sublist_cons_self ..)⟩
theorem Ros.get {F H : Hp} : ∀ {v : List V} {d : List D} {fp : List Addr} {j : Nat} {x : D}, Ros K F H v d fp → d[j]? = some x → ∃ y f, v[j]? = some y ∧ Ro K F H y x f ∧ NS f fp
  | _, _, _, _, _, .nil, h => by simp at h
  | _, _, _, 0, _, .cons h r, e => by
    simp at e; subst e
    exact ⟨_, _, rfl, h, .dropR _ _⟩
  | _, _, _, j + 1, _, .cons h r, e => by
    obtain ⟨y, f, h1, h2, h3⟩ := Ros.get (j := j) r (by simpa using e)
    exact ⟨y, f, by simpa using h1, h2, h3.trans (.dropL _ _)⟩
theorem Rfs.get {F : Hp} : ∀ {v : List V} {d : List D} {j : Nat} {x : D}, Rfs K F v d → d[j]? = some x → ∃ y, v[j]? = some y ∧ Rf K F y x
  | _, _, _, _, .nil, h => by simp at h
  | _, _, 0, _, .cons h r, e => by simp at e; subst e; exact ⟨_, rfl, h⟩
  | _, _, j + 1, _, .cons h r, e => by
    obtain ⟨y, h1, h2⟩ := Rfs.get (j := j) r (by simpa using e)
    exact ⟨y, by simpa using h1, h2⟩
theorem Ros.app {F H : Hp} : ∀ {v w : List V} {d e : List D} {f g : List Addr}, Ros K F H v d f → Ros K F H w e g → Ros K F H (v ++ w) (d ++ e) (f ++ g)
  | _, _, _, _, _, _, .nil, k => k
  | _, _, _, _, _, _, .cons h r, k => by
    rw [List.append_assoc]
    exact .cons h (Ros.app r k)
theorem Rfs.app {F : Hp} : ∀ {v w : List V} {d e : List D}, Rfs K F v d → Rfs K F w e → Rfs K F (v ++ w) (d ++ e)
  | _, _, _, _, .nil, k => k
  | _, _, _, _, .cons h r, k => .cons h (Rfs.app r k)
theorem Rfs.take {F : Hp} : ∀ {v : List V} {d : List D} (n : Nat), Rfs K F v d → Rfs K F (v.take n) (d.take n)
  | _, _, 0, _ => .nil
  | _, _, n + 1, .nil => .nil
  | _, _, n + 1, .cons h r => .cons h (Rfs.take n r)
theorem Rfs.drop {F : Hp} : ∀ {v : List V} {d : List D} (n : Nat), Rfs K F v d → Rfs K F (v.drop n) (d.drop n)
  | _, _, 0, r => r
  | _, _, n + 1, .nil => .nil
  | _, _, n + 1, .cons h r => Rfs.drop n r
/-- one part is another now -/
theorem Ros.set {F H : Hp} : ∀ {v : List V} {d : List D} {fp : List Addr} {j : Nat} {x : D}, Ros K F H v d fp → d[j]? = some x →
    ∃ y f rest, v[j]? = some y ∧ Ro K F H y x f ∧ NS (f ++ rest) fp ∧ (∀ p ∈ fp, p ∈ f ++ rest) ∧
      ∀ {F' H' : Hp} {y' : V} {x' : D} {f' : List Addr}, Same F F' → (∀ p ∈ rest, H' p = H p) → Ro K F' H' y' x' f' → ∃ fp', Ros K F' H' (v.set j y') (d.set j x') fp' ∧ NS fp' (f' ++ rest) ∧ NS (f' ++ rest) fp'
  | _, _, _, _, _, .nil, h => by simp at h
  | _, _, _, 0, _, .cons (f := f) (fp := fp) h r, e => by
    simp at e; subst e
    exact ⟨_, f, fp, rfl, h, .refl _, fun _ hp => hp, fun eF k ro => ⟨_, .cons ro (r.mono eF k), .refl _, .refl _⟩⟩
  | _, _, _, j + 1, _, .cons (f := g) (fp := gp) h r, e => by
    obtain ⟨y, f, rest, h1, h2, h3, h3', h4⟩ := Ros.set (j := j) r (by simpa using e)
    refine ⟨y, f, g ++ rest, by simpa using h1, h2, (NS.mid f g rest).trans (h3.left g), fun p hp => ?_, fun {F' H' y' x' f'} eF k ro => ?_⟩
    · rcases List.mem_append.mp hp with z | z
      · exact List.mem_append_right _ (List.mem_append_left _ z)
      · rcases List.mem_append.mp (h3' p z) with z | z
        · exact List.mem_append_left _ z
        · exact List.mem_append_right _ (List.mem_append_right _ z)
    · obtain ⟨fp', a, b, c⟩ := h4 (F' := F') (H' := H') eF (fun p hp => k p (List.mem_append_right _ hp)) ro
      refine ⟨g ++ fp', ?_, (b.left g).trans (NS.mid g f' rest), (NS.mid f' g rest).trans (c.left g)⟩
      exact .cons (h.mono eF fun p hp => k p (List.mem_append_left _ hp)) a
end

/-! ### the heap as a whole -/
/-- F: frozen; fp: owned; fb: lent by the caller -/
structure Wd (F H : Hp) (fp fb : List Addr) : Prop where
  ext : Same F H
  nd : fp.Nodup
  un : ∀ p ∈ fp, F p = none
  lent : ∀ p ∈ fb, p ∉ fp ∧ F p = none ∧ H p ≠ none
theorem Wd.less {F H : Hp} {a b fb : List Addr} (w : Wd F H b fb) (h : NS a b) : Wd F H a fb :=
  ⟨w.ext, h.2 w.nd, fun p hp => w.un p (h.1 p hp), fun p hp => ⟨fun z => (w.lent p hp).1 (h.1 p z), (w.lent p hp).2⟩⟩
/-- from F, H with the owned E to F', H' with the owned E' -/
structure Go (F H : Hp) (E : List Addr) (F' H' : Hp) (E' : List Addr) : Prop where
  ext : Same F F'
  keep : ∀ p o, H p = some o → p ∉ E → H' p = some o
  own : ∀ p ∈ E', p ∈ E ∨ H p = none
  frz : ∀ p, H p ≠ none → p ∉ E → F' p = F p
theorem Go.refl (F H : Hp) (E : List Addr) : Go F H E F H E := ⟨.refl _, fun _ _ h _ => h, fun _ h => .inl h, fun _ _ _ => rfl⟩
theorem Go.trans {F H F1 H1 F2 H2 : Hp} {E E1 E2 : List Addr} (a : Go F H E F1 H1 E1) (b : Go F1 H1 E1 F2 H2 E2) : Go F H E F2 H2 E2 := by
  have n1 : ∀ p, H p ≠ none → p ∉ E → p ∉ E1 := fun p h n z => (a.own p z).elim n h
  refine ⟨a.ext.trans b.ext, fun p o h n => ?_, fun p hp => ?_, fun p h n => ?_⟩
  · exact b.keep p o (a.keep p o h n) (n1 p (by rw [h]; intro z; cases z) n)
  · rcases b.own p hp with z | z
    · exact a.own p z
    · by_cases q : p ∈ E
      · exact .inl q
      · refine .inr ?_
        cases e : H p with
        | none => rfl
        | some o => rw [a.keep p o e q] at z; cases z
  · have k : H1 p ≠ none := by
      cases e : H p with
      | none => exact absurd e h
      | some o => rw [a.keep p o e n]; intro z; cases z
    exact (b.frz p k (n1 p h n)).trans (a.frz p h n)
theorem Go.less {F H F' H' : Hp} {E E' E'' : List Addr} (a : Go F H E F' H' E') (h : ∀ p ∈ E'', p ∈ E') : Go F H E F' H' E'' :=
  ⟨a.ext, a.keep, fun p hp => a.own p (h p hp), a.frz⟩
/-- more is owned ahead -/
theorem Go.more {F H F' H' : Hp} {E E' T : List Addr} (a : Go F H E F' H' E') (h : ∀ p ∈ E, p ∈ T) : Go F H T F' H' E' :=
  ⟨a.ext, fun p o e n => a.keep p o e fun z => n (h p z), fun p hp => (a.own p hp).imp (h p) id, fun p e n => a.frz p e fun z => n (h p z)⟩
/-- what is owned besides stands -/
theorem Go.frame {F H F' H' : Hp} {E E' T fb : List Addr} (a : Go F H E F' H' E') (w : Wd F H (T ++ E) fb) (ht : ∀ p ∈ T, H p ≠ none) (w' : Wd F' H' E' fb) :
    Go F H (T ++ E) F' H' (T ++ E') ∧ Wd F' H' (T ++ E') fb ∧ ∀ p ∈ T, H' p = H p := by
  obtain ⟨n1, n2, n3⟩ := nodup_app w.nd
  have kT : ∀ p ∈ T, H' p = H p := fun p hp => by
    cases e : H p with
    | none => exact absurd e (ht p hp)
    | some o => exact a.keep p o e (n3 p hp)
  refine ⟨⟨a.ext, fun p o e n => a.keep p o e fun z => n (List.mem_append_right _ z), fun p hp => ?_, fun p e n => a.frz p e fun z => n (List.mem_append_right _ z)⟩, ⟨w'.ext, ?_, fun p hp => ?_, fun p hp => ?_⟩, kT⟩
  · rcases List.mem_append.mp hp with z | z
    · exact .inl (List.mem_append_left _ z)
    · exact (a.own p z).imp (List.mem_append_right _) id
  · rw [List.nodup_append]
    refine ⟨n1, w'.nd, fun x hx y hy e => ?_⟩
    subst e
    rcases a.own x hy with z | z
    · exact n3 x hx z
    · exact ht x hx z
  · rcases List.mem_append.mp hp with z | z
    · rw [a.frz p (ht p z) (n3 p z)]
      exact w.un p (List.mem_append_left _ z)
    · exact w'.un p z
  · obtain ⟨l1, l2, l3⟩ := w'.lent p hp
    refine ⟨fun z => ?_, l2, l3⟩
    rcases List.mem_append.mp z with z | z
    · exact (w.lent p hp).1 (List.mem_append_left _ z)
    · exact l1 z
/-- a new object, owned -/
theorem Go.new {F H : Hp} {E : List Addr} {p : Addr} {o : HO} (h : H p = none) : Go F H E F (upd H p o) (p :: E) := by
  refine ⟨.refl _, fun q u e n => ?_, fun q hq => ?_, fun _ _ _ => rfl⟩
  · rw [upd_ne (ne_of_none e h)]; exact e
  · rcases List.mem_cons.mp hq with z | z
    · exact .inr (z ▸ h)
    · exact .inl z
theorem Wd.new {F H : Hp} {E fb : List Addr} {p : Addr} {o : HO} (w : Wd F H E fb) (h : H p = none) (hE : ∀ q ∈ E, H q ≠ none) : Wd F (upd H p o) (p :: E) fb := by
  have hF : F p = none := by
    cases e : F p with
    | none => rfl
    | some u => rw [w.ext p u e] at h; cases h
  refine ⟨fun q u e => ?_, ?_, fun q hq => ?_, fun q hq => ?_⟩
  · rw [upd_ne (ne_of_none (w.ext q u e) h)]; exact w.ext q u e
  · rw [List.nodup_cons]
    exact ⟨fun z => hE p z h, w.nd⟩
  · rcases List.mem_cons.mp hq with z | z
    · rw [z]; exact hF
    · exact w.un q z
  · obtain ⟨a, b, c⟩ := w.lent q hq
    have ne : q ≠ p := fun z => c (z ▸ h)
    refine ⟨fun z => ?_, b, by rw [upd_ne ne]; exact c⟩
    rcases List.mem_cons.mp z with z | z
    · exact ne z
    · exact a z
/-- an owned object is written -/
theorem Go.write {F H : Hp} {E : List Addr} {p : Addr} {o : HO} (h : p ∈ E) : Go F H E F (upd H p o) E :=
  ⟨.refl _, fun q u e n => by rw [upd_ne (fun z : q = p => n (by rw [z]; exact h))]; exact e, fun _ hq => .inl hq, fun _ _ _ => rfl⟩
theorem Wd.write {F H : Hp} {E fb : List Addr} {p : Addr} {o : HO} (w : Wd F H E fb) (h : p ∈ E) : Wd F (upd H p o) E fb := by
  refine ⟨fun q u e => ?_, w.nd, w.un, fun q hq => ?_⟩
  · rw [upd_ne (fun z => by rw [z, w.un p h] at e; cases e)]; exact w.ext q u e
  · obtain ⟨a, b, c⟩ := w.lent q hq
    exact ⟨a, b, by rw [upd_ne (fun z : q = p => a (by rw [z]; exact h))]; exact c⟩
/-- owned objects are frozen -/
theorem Go.freeze {F H : Hp} {E f rest : List Addr} (hE : ∀ p ∈ f ++ rest, p ∈ E) (w : ∀ p ∈ f, F p = none) : Go F H E (glue F H f) H rest :=
  ⟨glue_ext w, fun _ _ e _ => e, fun p hp => .inl (hE p (List.mem_append_right _ hp)), fun p _ n => glue_out fun z => n (hE p (List.mem_append_left _ z))⟩
theorem Wd.freeze {F H : Hp} {f rest fb : List Addr} (w : Wd F H (f ++ rest) fb) : Wd (glue F H f) H rest fb := by
  obtain ⟨n1, n2, n3⟩ := nodup_app w.nd
  refine ⟨glue_same w.ext, n2, fun p hp => ?_, fun p hp => ?_⟩
  · rw [glue_out (fun z => n3 p z hp)]
    exact w.un p (List.mem_append_right _ hp)
  · obtain ⟨a, b, c⟩ := w.lent p hp
    exact ⟨fun z => a (List.mem_append_right _ z), by rw [glue_out (fun z => a (List.mem_append_left _ z))]; exact b, c⟩
end Z

set_option Elab.async false
set_option linter.all false
set_option maxRecDepth 100000
set_option maxHeartbeats 2000000
/-! Z3: variables, and what it is that a reading computes. -/
namespace Z
open PySem L2

/-! ### variables -/
/-- s0: the values at the entry (an object of the caller's stays in its variable) -/
inductive EnvR (K : PySem.W.Frag) (F H : Hp) (fb : List Addr) : St → St → Env → List Addr → Prop
  | nil : EnvR K F H fb [] [] [] []
  | no {x0 x : Option V} {s0 s : St} {e : Env} {fp : List Addr} : EnvR K F H fb s0 s e fp → EnvR K F H fb (x0 :: s0) (x :: s) (.no :: e) fp
  | fr {x0 : Option V} {v : V} {d : D} {f : List Addr} {s0 s : St} {e : Env} {fp : List Addr} : Ro K F H v d f → EnvR K F H fb s0 s e fp → EnvR K F H fb (x0 :: s0) (some v :: s) (.fr d :: e) (f ++ fp)
  | pn {v : V} {d : D} {f : List Addr} {s0 s : St} {e : Env} {fp : List Addr} : Ro K F H v d f → EnvR K F H fb s0 s e fp → EnvR K F H fb (some v :: s0) (some v :: s) (.pn d :: e) (f ++ fp)
  | bo {v : V} {d : D} {f : List Addr} {s0 s : St} {e : Env} {fp : List Addr} : Ro K F H v d f → (∀ p ∈ f, p ∈ fb) → EnvR K F H fb s0 s e fp → EnvR K F H fb (some v :: s0) (some v :: s) (.bo d :: e) fp
section
variable {K : PySem.W.Frag} {fb : List Addr}
theorem EnvR.mono {F F' H H' : Hp} (e : Same F F') (hb : ∀ p ∈ fb, H' p = H p) : ∀ {s0 s : St} {en : Env} {fp : List Addr}, EnvR K F H fb s0 s en fp → (∀ p ∈ fp, H' p = H p) → EnvR K F' H' fb s0 s en fp
  | _, _, _, _, .nil, _ => .nil
  | _, _, _, _, .no r, k => .no (EnvR.mono e hb r k)
  | _, _, _, _, .fr h r, k => .fr (h.mono e fun p hp => k p (List.mem_append_left _ hp)) (EnvR.mono e hb r fun p hp => k p (List.mem_append_right _ hp))
  | _, _, _, _, .pn h r, k => .pn (h.mono e fun p hp => k p (List.mem_append_left _ hp)) (EnvR.mono e hb r fun p hp => k p (List.mem_append_right _ hp))
  | _, _, _, _, .bo h z r, k => .bo (h.mono e fun p hp => hb p (z p hp)) z (EnvR.mono e hb r k)
theorem EnvR.dom {F H : Hp} : ∀ {s0 s : St} {en : Env} {fp : List Addr}, EnvR K F H fb s0 s en fp → ∀ p ∈ fp, H p ≠ none
  | _, _, _, _, .nil, p, hp => by cases hp
  | _, _, _, _, .no r, p, hp => EnvR.dom r p hp
  | _, _, _, _, .fr h r, p, hp => (List.mem_append.mp hp).elim (h.dom p) (EnvR.dom r p)
  | _, _, _, _, .pn h r, p, hp => (List.mem_append.mp hp).elim (h.dom p) (EnvR.dom r p)
  | _, _, _, _, .bo h z r, p, hp => EnvR.dom r p hp
theorem EnvR.len {F H : Hp} : ∀ {s0 s : St} {en : Env} {fp : List Addr}, EnvR K F H fb s0 s en fp → s.length = en.length
  | _, _, _, _, .nil => rfl
  | _, _, _, _, .no r => by simp [EnvR.len r]
  | _, _, _, _, .fr h r => by simp [EnvR.len r]
  | _, _, _, _, .pn h r => by simp [EnvR.len r]
  | _, _, _, _, .bo h z r => by simp [EnvR.len r]
theorem EnvR.get {F H : Hp} : ∀ {s0 s : St} {en : Env} {fp : List Addr} {i : Nat} {d : D}, EnvR K F H fb s0 s en fp → getS en i = some d →
    ∃ v f, s[i]? = some (some v) ∧ Ro K F H v d f ∧ ∀ p ∈ f, p ∈ fp ∨ p ∈ fb
  | _, _, _, _, _, _, .nil, h => by simp [getS] at h
  | _, _, _, _, 0, _, .no r, h => by simp [getS] at h
  | _, _, _, _, 0, _, .fr k r, h => by
    simp only [getS, Option.some.injEq] at h; subst h
    exact ⟨_, _, rfl, k, fun p hp => .inl (List.mem_append_left _ hp)⟩
  | _, _, _, _, 0, _, .pn k r, h => by
    simp only [getS, Option.some.injEq] at h; subst h
    exact ⟨_, _, rfl, k, fun p hp => .inl (List.mem_append_left _ hp)⟩
  | _, _, _, _, 0, _, .bo k z r, h => by
    simp only [getS, Option.some.injEq] at h; subst h
    exact ⟨_, _, rfl, k, fun p hp => .inr (z p hp)⟩
  | _, _, _, _, i + 1, _, .no r, h => by
    obtain ⟨v, f, a, b, c⟩ := EnvR.get (i := i) r (by simpa [getS] using h)
    exact ⟨v, f, by simpa using a, b, c⟩
  | _, _, _, _, i + 1, _, .fr k r, h => by
    obtain ⟨v, f, a, b, c⟩ := EnvR.get (i := i) r (by simpa [getS] using h)
    exact ⟨v, f, by simpa using a, b, fun p hp => (c p hp).imp (List.mem_append_right _) id⟩
  | _, _, _, _, i + 1, _, .pn k r, h => by
    obtain ⟨v, f, a, b, c⟩ := EnvR.get (i := i) r (by simpa [getS] using h)
    exact ⟨v, f, by simpa using a, b, fun p hp => (c p hp).imp (List.mem_append_right _) id⟩
  | _, _, _, _, i + 1, _, .bo k z r, h => by
    obtain ⟨v, f, a, b, c⟩ := EnvR.get (i := i) r (by simpa [getS] using h)
    exact ⟨v, f, by simpa using a, b, c⟩
theorem EnvR.set {F H : Hp} {v : V} {d : D} {f : List Addr} (ro : Ro K F H v d f) : ∀ {s0 s : St} {en en' : Env} {fp : List Addr} {i : Nat}, EnvR K F H fb s0 s en fp → setS en i d = some en' →
    ∃ fp', EnvR K F H fb s0 (s.set i (some v)) en' fp' ∧ NS fp' (f ++ fp)
  | _, _, _, _, _, _, .nil, h => by simp [setS] at h
  | _, _, _, _, _, 0, .no r, h => by
    simp only [setS, Option.some.injEq] at h; subst h
    exact ⟨_, .fr ro r, .refl _⟩
  | _, _, _, _, _, 0, .fr k r, h => by
    simp only [setS, Option.some.injEq] at h; subst h
    exact ⟨_, .fr ro r, (NS.dropL _ _).left _⟩
  | _, _, _, _, _, 0, .pn k r, h => by simp [setS] at h
  | _, _, _, _, _, 0, .bo k z r, h => by simp [setS] at h
  | _, _, _, _, _, i + 1, .no r, h => by
    simp only [setS, Option.map_eq_some_iff] at h
    obtain ⟨e', h, rfl⟩ := h
    obtain ⟨fp', a, b⟩ := EnvR.set ro (i := i) r h
    exact ⟨fp', .no a, b⟩
  | _, _, _, _, _, i + 1, .fr (f := g) k r, h => by
    simp only [setS, Option.map_eq_some_iff] at h
    obtain ⟨e', h, rfl⟩ := h
    obtain ⟨fp', a, b⟩ := EnvR.set ro (i := i) r h
    exact ⟨g ++ fp', .fr k a, (b.left g).trans (NS.mid ..)⟩
  | _, _, _, _, _, i + 1, .pn (f := g) k r, h => by
    simp only [setS, Option.map_eq_some_iff] at h
    obtain ⟨e', h, rfl⟩ := h
    obtain ⟨fp', a, b⟩ := EnvR.set ro (i := i) r h
    exact ⟨g ++ fp', .pn k a, (b.left g).trans (NS.mid ..)⟩
  | _, _, _, _, _, i + 1, .bo k z r, h => by
    simp only [setS, Option.map_eq_some_iff] at h
    obtain ⟨e', h, rfl⟩ := h
    obtain ⟨fp', a, b⟩ := EnvR.set ro (i := i) r h
    exact ⟨fp', .bo k z a, b⟩
/-- a variable loses its value (x: whatever the slot holds then) -/
theorem EnvR.clr {F H : Hp} (x : Option V) : ∀ {s0 s : St} {en en' : Env} {fp : List Addr} {i : Nat}, EnvR K F H fb s0 s en fp → clrS en i = some en' →
    ∃ fp', EnvR K F H fb s0 (s.set i x) en' fp' ∧ EnvR K F H fb s0 s en' fp' ∧ NS fp' fp ∧ ∀ d, getS en i = some d → ∃ v f, s[i]? = some (some v) ∧ Ro K F H v d f ∧ NS (f ++ fp') fp
  | _, _, _, _, _, _, .nil, h => by simp [clrS] at h
  | _, _, _, _, _, 0, .no r, h => by
    simp only [clrS, Option.some.injEq] at h; subst h
    exact ⟨_, .no r, .no r, .refl _, fun d z => by simp [getS] at z⟩
  | _, _, _, _, _, 0, .fr k r, h => by
    simp only [clrS, Option.some.injEq] at h; subst h
    refine ⟨_, .no r, .no r, .dropL _ _, fun d z => ?_⟩
    simp only [getS, Option.some.injEq] at z; subst z
    exact ⟨_, _, rfl, k, .refl _⟩
  | _, _, _, _, _, 0, .pn k r, h => by simp [clrS] at h
  | _, _, _, _, _, 0, .bo k z r, h => by simp [clrS] at h
  | _, _, _, _, _, i + 1, .no r, h => by
    simp only [clrS, Option.map_eq_some_iff] at h
    obtain ⟨e', h, rfl⟩ := h
    obtain ⟨fp', a, a', b, c⟩ := EnvR.clr x (i := i) r h
    refine ⟨fp', .no a, .no a', b, fun d z => ?_⟩
    obtain ⟨v, f, p, q, t⟩ := c d (by simpa [getS] using z)
    exact ⟨v, f, by simpa using p, q, t⟩
  | _, _, _, _, _, i + 1, .fr (f := g) k r, h => by
    simp only [clrS, Option.map_eq_some_iff] at h
    obtain ⟨e', h, rfl⟩ := h
    obtain ⟨fp', a, a', b, c⟩ := EnvR.clr x (i := i) r h
    refine ⟨g ++ fp', .fr k a, .fr k a', b.left g, fun d z => ?_⟩
    obtain ⟨v, f, p, q, t⟩ := c d (by simpa [getS] using z)
    exact ⟨v, f, by simpa using p, q, (NS.mid ..).trans (t.left g)⟩
  | _, _, _, _, _, i + 1, .pn (f := g) k r, h => by
    simp only [clrS, Option.map_eq_some_iff] at h
    obtain ⟨e', h, rfl⟩ := h
    obtain ⟨fp', a, a', b, c⟩ := EnvR.clr x (i := i) r h
    refine ⟨g ++ fp', .pn k a, .pn k a', b.left g, fun d z => ?_⟩
    obtain ⟨v, f, p, q, t⟩ := c d (by simpa [getS] using z)
    exact ⟨v, f, by simpa using p, q, (NS.mid ..).trans (t.left g)⟩
  | _, _, _, _, _, i + 1, .bo k z r, h => by
    simp only [clrS, Option.map_eq_some_iff] at h
    obtain ⟨e', h, rfl⟩ := h
    obtain ⟨fp', a, a', b, c⟩ := EnvR.clr x (i := i) r h
    refine ⟨fp', .bo k z a, .bo k z a', b, fun d z => ?_⟩
    obtain ⟨v, f, p, q, t⟩ := c d (by simpa [getS] using z)
    exact ⟨v, f, by simpa using p, q, t⟩
/-- the object of a variable changes -/
theorem EnvR.put {F H : Hp} : ∀ {s0 s : St} {en en' : Env} {fp : List Addr} {i : Nat} {d d' : D}, EnvR K F H fb s0 s en fp → getS en i = some d → putS en i d' = some en' →
    ∃ v f rest, s[i]? = some (some v) ∧ Ro K F H v d f ∧ NS (f ++ rest) fp ∧ (∀ p ∈ fp, p ∈ f ++ rest) ∧
      ∀ {F' H' : Hp} {f' : List Addr}, Same F F' → (∀ p ∈ rest, H' p = H p) → (∀ p ∈ fb, H' p = H p) → Ro K F' H' v d' f' → ∃ fp', EnvR K F' H' fb s0 s en' fp' ∧ NS fp' (f' ++ rest) ∧ NS (f' ++ rest) fp'
  | _, _, _, _, _, _, _, _, .nil, h, _ => by simp [getS] at h
  | _, _, _, _, _, 0, _, _, .no r, h, _ => by simp [getS] at h
  | _, _, _, _, _, 0, _, _, .fr (f := g) (fp := gp) k r, h, h' => by
    simp only [getS, Option.some.injEq] at h; subst h
    simp only [putS, Option.some.injEq] at h'; subst h'
    exact ⟨_, g, gp, rfl, k, .refl _, fun _ hp => hp, fun eF kr kb ro => ⟨_, .fr ro (r.mono eF kb kr), .refl _, .refl _⟩⟩
  | _, _, _, _, _, 0, _, _, .pn (f := g) (fp := gp) k r, h, h' => by
    simp only [getS, Option.some.injEq] at h; subst h
    simp only [putS, Option.some.injEq] at h'; subst h'
    exact ⟨_, g, gp, rfl, k, .refl _, fun _ hp => hp, fun eF kr kb ro => ⟨_, .pn ro (r.mono eF kb kr), .refl _, .refl _⟩⟩
  | _, _, _, _, _, 0, _, _, .bo k z r, h, h' => by simp [putS] at h'
  | _, _, _, _, _, i + 1, _, _, .no r, h, h' => by
    simp only [putS, Option.map_eq_some_iff] at h'
    obtain ⟨e', h', rfl⟩ := h'
    obtain ⟨v, f, rest, a, b, c, c', m⟩ := EnvR.put (i := i) r (by simpa [getS] using h) h'
    refine ⟨v, f, rest, by simpa using a, b, c, c', fun {F' H' f'} eF kr kb ro => ?_⟩
    obtain ⟨fp', x, y, y'⟩ := m (F' := F') (H' := H') eF kr kb ro
    exact ⟨fp', .no x, y, y'⟩
  | _, _, _, _, _, i + 1, _, _, .fr (f := g) k r, h, h' => by
    simp only [putS, Option.map_eq_some_iff] at h'
    obtain ⟨e', h', rfl⟩ := h'
    obtain ⟨v, f, rest, a, b, c, c', m⟩ := EnvR.put (i := i) r (by simpa [getS] using h) h'
    refine ⟨v, f, g ++ rest, by simpa using a, b, (NS.mid ..).trans (c.left g), fun p hp => ?_, fun {F' H' f'} eF kr kb ro => ?_⟩
    · rcases List.mem_append.mp hp with z | z
      · exact List.mem_append_right _ (List.mem_append_left _ z)
      · rcases List.mem_append.mp (c' p z) with z | z
        · exact List.mem_append_left _ z
        · exact List.mem_append_right _ (List.mem_append_right _ z)
    · obtain ⟨fp', x, y, y'⟩ := m (F' := F') (H' := H') eF (fun p hp => kr p (List.mem_append_right _ hp)) kb ro
      exact ⟨g ++ fp', .fr (k.mono eF fun p hp => kr p (List.mem_append_left _ hp)) x, (y.left g).trans (NS.mid ..), (NS.mid ..).trans (y'.left g)⟩
  | _, _, _, _, _, i + 1, _, _, .pn (f := g) k r, h, h' => by
    simp only [putS, Option.map_eq_some_iff] at h'
    obtain ⟨e', h', rfl⟩ := h'
    obtain ⟨v, f, rest, a, b, c, c', m⟩ := EnvR.put (i := i) r (by simpa [getS] using h) h'
    refine ⟨v, f, g ++ rest, by simpa using a, b, (NS.mid ..).trans (c.left g), fun p hp => ?_, fun {F' H' f'} eF kr kb ro => ?_⟩
    · rcases List.mem_append.mp hp with z | z
      · exact List.mem_append_right _ (List.mem_append_left _ z)
      · rcases List.mem_append.mp (c' p z) with z | z
        · exact List.mem_append_left _ z
        · exact List.mem_append_right _ (List.mem_append_right _ z)
    · obtain ⟨fp', x, y, y'⟩ := m (F' := F') (H' := H') eF (fun p hp => kr p (List.mem_append_right _ hp)) kb ro
      exact ⟨g ++ fp', .pn (k.mono eF fun p hp => kr p (List.mem_append_left _ hp)) x, (y.left g).trans (NS.mid ..), (NS.mid ..).trans (y'.left g)⟩
  | _, _, _, _, _, i + 1, _, _, .bo k z r, h, h' => by
    simp only [putS, Option.map_eq_some_iff] at h'
    obtain ⟨e', h', rfl⟩ := h'
    obtain ⟨v, f, rest, a, b, c, c', m⟩ := EnvR.put (i := i) r (by simpa [getS] using h) h'
    refine ⟨v, f, rest, by simpa using a, b, c, c', fun {F' H' f'} eF kr kb ro => ?_⟩
    obtain ⟨fp', x, y, y'⟩ := m (F' := F') (H' := H') eF kr kb ro
    exact ⟨fp', .bo (k.mono eF fun p hp => kb p (z p hp)) z x, y, y'⟩
end
theorem set_put : ∀ {e e' : Env} {i : Nat} {d z : D}, getS e i = some d → setS e i z = some e' → putS e i z = some e'
  | [], _, _, _, _, h, _ => by simp [getS] at h
  | .no :: r, _, 0, _, _, h, _ => by simp [getS] at h
  | .fr _ :: r, _, 0, _, _, _, h => by simpa [setS, putS] using h
  | .pn _ :: r, _, 0, _, _, _, h => by simp [setS] at h
  | .bo _ :: r, _, 0, _, _, _, h => by simp [setS] at h
  | .no :: r, _, i + 1, _, _, g, h => by
    simp only [setS, Option.map_eq_some_iff] at h
    obtain ⟨e', h, rfl⟩ := h
    simp [putS, set_put (i := i) (by simpa [getS] using g) h]
  | .fr _ :: r, _, i + 1, _, _, g, h => by
    simp only [setS, Option.map_eq_some_iff] at h
    obtain ⟨e', h, rfl⟩ := h
    simp [putS, set_put (i := i) (by simpa [getS] using g) h]
  | .pn _ :: r, _, i + 1, _, _, g, h => by
    simp only [setS, Option.map_eq_some_iff] at h
    obtain ⟨e', h, rfl⟩ := h
    simp [putS, set_put (i := i) (by simpa [getS] using g) h]
  | .bo _ :: r, _, i + 1, _, _, g, h => by
    simp only [setS, Option.map_eq_some_iff] at h
    obtain ⟨e', h, rfl⟩ := h
    simp [putS, set_put (i := i) (by simpa [getS] using g) h]
end Z

set_option Elab.async false
set_option linter.all false
set_option maxRecDepth 100000
set_option maxHeartbeats 2000000
/-! Z4: what it is that a reading computes an evaluation. -/
namespace Z
open PySem L2

structure Cz where
  K : PySem.W.Frag
  W : WX
  phi : Nat → List PM → List D → FRes
  wf : Nat
  s0 : St
  fb : List Addr
/-- an exception that flies: its class, its own dict -/
def ExcR (C : Cz) (F H : Hp) (c : Nat) (d : D) (cls : Value) (dx : Addr) : Prop := cls = .ref (caK C.K c) ∧ XcK C.K c ∧ ∃ v, F dx = some (.xd [(sValue, v)]) ∧ Rf C.K F v d
abbrev RR (α β : Type) := Hp → Hp → List Addr → β → α → Prop
def Post {α β : Type} (C : Cz) (R : RR α β) (p : Bool) (F H : Hp) (fp : List Addr) (e : Env) (σ : L2.St) (r : Res α) (Q : β → Hp → Prop) : Prop := match r with
  | .ok a e' => ∀ v F' H' f fp', Go F H fp F' H' (f ++ fp') → Wd F' H' (f ++ fp') C.fb → EnvR C.K F' H' C.fb C.s0 σ e' fp' → R F' H' f v a → (p = true → Same H H' ∧ e' = e) → Q v H'
  | .xc c d e' => ∀ F' H' fp' cls dx, Go F H fp F' H' fp' → Wd F' H' fp' C.fb → EnvR C.K F' H' C.fb C.s0 σ e' fp' → ExcR C F' H' c d cls dx → C.W cls (some dx) σ H'
  | .bad => False
def Comp {α β : Type} (C : Cz) (R : RR α β) (p : Bool) (t : L2.St → Hp → (β → Hp → Prop) → Prop) (ev : Env → Res α) : Prop :=
  ∀ σ H e F fp Q, EnvR C.K F H C.fb C.s0 σ e fp → Wd F H fp C.fb → Post C R p F H fp e σ (ev e) Q → t σ H Q
/-- the weakest reading that computes ev -/
def tW {α β : Type} (C : Cz) (R : RR α β) (p : Bool) (ev : Env → Res α) : L2.St → Hp → (β → Hp → Prop) → Prop := fun σ H Q =>
  ∃ e F fp, EnvR C.K F H C.fb C.s0 σ e fp ∧ Wd F H fp C.fb ∧ Post C R p F H fp e σ (ev e) Q
theorem comp_tW {α β : Type} {C : Cz} {R : RR α β} {p : Bool} {ev : Env → Res α} : Comp C R p (tW C R p ev) ev := fun σ H e F fp Q a b c => ⟨e, F, fp, a, b, c⟩
theorem Comp.of_tW {α β : Type} {C : Cz} {R : RR α β} {p : Bool} {ev : Env → Res α} {t : L2.St → Hp → (β → Hp → Prop) → Prop} (h : Comp C R p t ev) {σ : L2.St} {H : Hp} {Q : β → Hp → Prop} (x : tW C R p ev σ H Q) : t σ H Q := by
  obtain ⟨e, F, fp, a, b, c⟩ := x
  exact h σ H e F fp Q a b c
theorem pe_of {X : Cx} {C : Cz} {R : RR D V} {p : Bool} {ev : Env → Res D} {x : Expr} {t : TE} (h : Comp C R p t ev) (k : PE X x t) : PE X x (tW C R p ev) :=
  ⟨fun pins s σ H Q I hw => k.run pins s σ H Q I (h.of_tW hw)⟩
theorem pt_of {X : Cx} {C : Cz} {R : RR Bool Bool} {p : Bool} {ev : Env → Res Bool} {x : Expr} {t : TT} (h : Comp C R p t ev) (k : PT X x t) : PT X x (tW C R p ev) :=
  ⟨fun pins s σ H Q I hw => k.run pins s σ H Q I (h.of_tW hw)⟩
theorem pa_of {X : Cx} {C : Cz} {R : RR (List D) (List V)} {p : Bool} {ev : Env → Res (List D)} {x : List Expr} {t : TA} (h : Comp C R p t ev) (k : PA X x t) : PA X x (tW C R p ev) :=
  ⟨fun pos pins s σ H Q I hw => k.run pos pins s σ H Q I (h.of_tW hw)⟩

/-- a value: owned, or borrowed -/
def RV (K : PySem.W.Frag) (b : Bool) : RR D V := fun F H f v d => if b = true then f = [] ∧ ∃ f', Ro K F H v d f' else Ro K F H v d f
def RL (K : PySem.W.Frag) : RR (List D) (List V) := fun F H f v d => Ros K F H v d f
def RQ {α : Type} : RR α α := fun _ _ f v d => f = [] ∧ v = d
theorem RV.dom {K : PySem.W.Frag} {b : Bool} {F H : Hp} {f : List Addr} {v : V} {d : D} (h : RV K b F H f v d) : ∀ q ∈ f, H q ≠ none := by
  unfold RV at h
  split at h
  · rw [h.1]; intro q hq; cases hq
  · exact h.dom
theorem RV.ro {K : PySem.W.Frag} {b : Bool} {F H : Hp} {f : List Addr} {v : V} {d : D} (h : RV K b F H f v d) : ∃ f', Ro K F H v d f' := by
  unfold RV at h
  split at h
  · exact h.2
  · exact ⟨_, h⟩
theorem RV.own {K : PySem.W.Frag} {F H : Hp} {f : List Addr} {v : V} {d : D} (h : RV K false F H f v d) : Ro K F H v d f := h
theorem RV.mk {K : PySem.W.Frag} {F H : Hp} {f : List Addr} {v : V} {d : D} (h : Ro K F H v d f) : RV K false F H f v d := h
theorem RV.scal {K : PySem.W.Frag} {b : Bool} {F H : Hp} {v : V} {d : D} (h : Ro K F H v d []) : RV K b F H [] v d := by
  unfold RV
  split
  · exact ⟨rfl, _, h⟩
  · exact h

section
variable {C : Cz}
theorem Comp.bind {α β γ δ : Type} {R1 : RR α β} {R2 : RR γ δ} {p p1 : Bool} {t1 : L2.St → Hp → (β → Hp → Prop) → Prop} {ev1 : Env → Res α} (h1 : Comp C R1 p1 t1 ev1)
    {σ : L2.St} {H F : Hp} {e : Env} {fp : List Addr} (er : EnvR C.K F H C.fb C.s0 σ e fp) (wd : Wd F H fp C.fb) {k : α → Env → Res γ} {Q : δ → Hp → Prop} (post : Post C R2 p F H fp e σ ((ev1 e).andThen k) Q) {Q1 : β → Hp → Prop}
    (hk : ∀ a e1 v F1 H1 f fp1, Go F H fp F1 H1 (f ++ fp1) → Wd F1 H1 (f ++ fp1) C.fb → EnvR C.K F1 H1 C.fb C.s0 σ e1 fp1 → R1 F1 H1 f v a → (p1 = true → Same H H1 ∧ e1 = e) → Post C R2 p F H fp e σ (k a e1) Q → Q1 v H1) : t1 σ H Q1 := by
  refine h1 σ H e F fp Q1 er wd ?_
  cases hv : ev1 e with
  | bad => rw [hv] at post; exact post
  | xc c d e' => rw [hv] at post; exact post
  | ok a e' =>
    rw [hv] at post
    intro v F' H' f fp' g w er' r pu
    exact hk a e' v F' H' f fp' g w er' r pu post
/-- the same evaluation seen from a later state -/
theorem Post.shift {α β : Type} {R : RR α β} {p p' : Bool} {F H F1 H1 : Hp} {fp f fp1 : List Addr} {e e1 : Env} {σ : L2.St} {r : Res α} {Q : β → Hp → Prop} (post : Post C R p F H fp e σ r Q)
    (g : Go F H fp F1 H1 (f ++ fp1)) (w : Wd F1 H1 (f ++ fp1) C.fb) (dm : ∀ q ∈ f, H1 q ≠ none) (hp : p = true → (Same H H1 ∧ e1 = e) ∧ p' = true) : Post C R p' F1 H1 fp1 e1 σ r Q := by
  cases r with
  | bad => exact post
  | xc c d e' =>
    intro F' H' fp' cls dx g' w' er x
    obtain ⟨g2, w2, _⟩ := g'.frame w dm w'
    exact post F' H' fp' cls dx ((g.trans g2).less fun q hq => List.mem_append_right _ hq) w' er x
  | ok a e' =>
    intro v F' H' f' fp' g' w' er ra pu
    obtain ⟨g2, w2, _⟩ := g'.frame w dm w'
    refine post v F' H' f' fp' ((g.trans g2).less fun q hq => List.mem_append_right _ hq) w' er ra fun z => ?_
    obtain ⟨⟨s1, e1'⟩, pp⟩ := hp z
    obtain ⟨s2, e2⟩ := pu pp
    exact ⟨s1.trans s2, e2.trans e1'⟩
/-- two evaluations, one behind the other -/
theorem Comp.two {γ δ : Type} {b1 b2 p1 p2 p : Bool} {R : RR γ δ} {t1 t2 : TE} {ev1 ev2 : Env → Res D} (h1 : Comp C (RV C.K b1) p1 t1 ev1) (h2 : Comp C (RV C.K b2) p2 t2 ev2) (hb : b1 = true → p2 = true) (hp : p = true → p1 = true ∧ p2 = true)
    {σ : L2.St} {H F : Hp} {e : Env} {fp : List Addr} (er : EnvR C.K F H C.fb C.s0 σ e fp) (wd : Wd F H fp C.fb) {k : D → D → Env → Res γ} {Q : δ → Hp → Prop}
    (post : Post C R p F H fp e σ ((ev1 e).andThen fun x e => (ev2 e).andThen fun y e => k x y e) Q) {S : V → V → Hp → Prop}
    (hk : ∀ x y e2 v w F2 H2 f g fp2, Go F H fp F2 H2 (f ++ (g ++ fp2)) → Wd F2 H2 (f ++ (g ++ fp2)) C.fb → EnvR C.K F2 H2 C.fb C.s0 σ e2 fp2 → RV C.K b1 F2 H2 f v x → RV C.K b2 F2 H2 g w y →
      (p1 = true → p2 = true → Same H H2 ∧ e2 = e) → Post C R p F H fp e σ (k x y e2) Q → S v w H2) : t1 σ H fun v H1 => t2 σ H1 fun w H2 => S v w H2 := by
  refine h1.bind er wd post fun x e1 v F1 H1 f fp1 g1 w1 er1 r1 pu1 post1 => ?_
  refine h2 σ H1 e1 F1 fp1 _ er1 (w1.less (.dropL _ _)) ?_
  have ps : Post C R (p1 && p2) F H fp e σ ((ev2 e1).andThen fun y e => k x y e) Q := by
    cases hv : ev2 e1 with
    | bad => rw [hv] at post1; exact post1
    | xc c d e' => rw [hv] at post1; exact post1
    | ok y e' =>
      rw [hv] at post1
      show Post C R (p1 && p2) F H fp e σ (k x y e') Q
      have q : Post C R p F H fp e σ (k x y e') Q := post1
      cases hk' : k x y e' with
      | bad => rw [hk'] at q; exact q
      | xc c d e'' => rw [hk'] at q; exact q
      | ok a e'' =>
        rw [hk'] at q
        intro v' F' H' f' fp' a1 a2 a3 a4 a5
        exact q v' F' H' f' fp' a1 a2 a3 a4 fun z => a5 (by simp [hp z])
  cases hv : ev2 e1 with
  | bad => rw [hv] at post1; exact post1
  | xc c d e' =>
    rw [hv] at ps
    have ps' : Post C R (p1 && p2) F H fp e σ (.xc c d e' : Res γ) Q := ps
    intro F' H' fp' cls dx g' w' er' x'
    obtain ⟨g2, w2, _⟩ := g'.frame w1 r1.dom w'
    exact ps' F' H' fp' cls dx ((g1.trans g2).less fun q hq => List.mem_append_right _ hq) w' er' x'
  | ok y e' =>
    rw [hv] at post1
    intro w F2 H2 g fp2 g2 w2 er2 r2 pu2
    obtain ⟨gf, wf, st⟩ := g2.frame w1 r1.dom w2
    refine hk x y e' v w F2 H2 f g fp2 (g1.trans gf) wf er2 ?_ r2 (fun z1 z2 => ?_) post1
    · cases b1 with
      | true =>
        obtain ⟨hf, f', ro⟩ := (show f = [] ∧ ∃ f', Ro C.K F1 H1 v x f' from r1)
        obtain ⟨sm, _⟩ := pu2 (hb rfl)
        refine ⟨hf, f', ro.mono g2.ext fun q hq => ?_⟩
        cases hq1 : H1 q with
        | none => exact absurd hq1 (ro.dom q hq)
        | some o => exact sm q o hq1
      | false =>
        exact (show Ro C.K F1 H1 v x f from r1).mono g2.ext st
    · obtain ⟨s1, e1'⟩ := pu1 z1
      obtain ⟨s2, e2'⟩ := pu2 z2
      exact ⟨s1.trans s2, e2'.trans e1'⟩
/-- the end: a value that is owned -/
theorem Post.ret {p : Bool} {F H F' H' : Hp} {fp f f0 fp' : List Addr} {e e' : Env} {σ : L2.St} {Q : VK} {v : V} {d : D} (post : Post C (RV C.K false) p F H fp e σ (.ok d e') Q)
    (g : Go F H fp F' H' f0) (w : Wd F' H' f0 C.fb) (hs : NS (f ++ fp') f0) (er : EnvR C.K F' H' C.fb C.s0 σ e' fp') (r : Ro C.K F' H' v d f) (pu : p = true → Same H H' ∧ e' = e) : Q v H' :=
  post v F' H' f fp' (g.less hs.1) (w.less hs) er r pu
theorem Post.retS {p b : Bool} {F H F' H' : Hp} {fp f0 fp' : List Addr} {e e' : Env} {σ : L2.St} {Q : VK} {v : V} {d : D} (post : Post C (RV C.K b) p F H fp e σ (.ok d e') Q)
    (g : Go F H fp F' H' f0) (w : Wd F' H' f0 C.fb) (hs : NS fp' f0) (er : EnvR C.K F' H' C.fb C.s0 σ e' fp') (r : Rf C.K F' v d) (pu : p = true → Same H H' ∧ e' = e) : Q v H' :=
  post v F' H' [] fp' (g.less hs.1) (w.less hs) er (.scal (.frz r)) pu

/-! ### constants and variables -/
theorem comp_c {d : D} {v : V} (hs : scalD d = true) (h : Rf C.K (fun _ => none) v d) : Comp C (RV C.K false) true (tC v) (evE C.phi (.c d)) := by
  intro σ H e F fp Q er wd post
  have post : Post C (RV C.K false) true F H fp e σ (if scalD d = true then .ok d e else .bad) Q := by simpa only [evE] using post
  rw [if_pos hs] at post
  exact post.retS (.refl F H fp) wd (.refl fp) er (h.mono fun _ _ z => by cases z) fun _ => ⟨.refl _, rfl⟩
theorem lift_andThen {α β : Type} {o : Option α} {e : Env} {k : α → Env → Res β} : (lift o e).andThen k = match o with
    | some a => k a e
    | none => .bad := by cases o <;> rfl
theorem comp_v {i : Nat} : Comp C (RV C.K false) true (tVar i) (evE C.phi (.v i)) := by
  intro σ H e F fp Q er wd post
  simp only [evE, lift_andThen] at post
  cases h : getS e i with
  | none => rw [h] at post; exact post.elim
  | some d =>
    rw [h] at post
    obtain ⟨v, f, hv, ro, _⟩ := er.get h
    refine ⟨v, hv, ?_⟩
    by_cases hf : fzn d = true
    · simp only [hf, if_true] at post
      exact post.retS (.refl F H fp) wd (.refl fp) er (ro.frozen hf).1 fun _ => ⟨.refl _, rfl⟩
    · simp only [hf, if_false, Bool.false_eq_true] at post; exact post.elim
theorem comp_bw {i : Nat} : Comp C (RV C.K true) true (tVar i) (evE C.phi (.bw i)) := by
  intro σ H e F fp Q er wd post
  simp only [evE] at post
  cases h : getS e i with
  | none => rw [h] at post; exact post.elim
  | some d =>
    rw [h] at post
    obtain ⟨v, f, hv, ro, _⟩ := er.get h
    exact ⟨v, hv, post v F H [] fp (.refl F H fp) wd er ⟨rfl, _, ro⟩ fun _ => ⟨.refl _, rfl⟩⟩
theorem set_same {α : Type} : ∀ {s : List α} {i : Nat} {x : α}, s[i]? = some x → s.set i x = s
  | [], _, _, h => by simp at h
  | y :: s, 0, x, h => by simp at h; simp [h]
  | y :: s, i + 1, x, h => by simp at h; simp [set_same h]
theorem comp_mv {i : Nat} : Comp C (RV C.K false) false (tVar i) (evE C.phi (.mv i)) := by
  intro σ H e F fp Q er wd post
  simp only [evE, lift_andThen] at post
  cases h : getS e i with
  | none => rw [h] at post; exact post.elim
  | some d =>
    rw [h] at post
    cases hc : clrS e i with
    | none => simp only [hc] at post; exact post.elim
    | some e' =>
      simp only [hc] at post
      obtain ⟨fp', _, er', _, k⟩ := er.clr none hc
      obtain ⟨v, f, hv, ro, ns⟩ := k d h
      exact ⟨v, hv, post.ret (.refl F H fp) wd ns er' ro fun z => by cases z⟩
theorem comp_vz {i : Nat} : Comp C (RV C.K false) false (tVar i) (evE C.phi (.vz i)) := by
  intro σ H e F fp Q er wd post
  simp only [evE, lift_andThen] at post
  cases h : getS e i with
  | none => rw [h] at post; exact post.elim
  | some d =>
    simp only [h] at post
    by_cases hz : canF d = true
    · simp only [frz?, hz, if_true] at post
      cases hs : setS e i (frz d) with
      | none => simp only [hs] at post; exact post.elim
      | some e' =>
        simp only [hs] at post
        obtain ⟨v, f, rest, hv, ro, ns, ns', m⟩ := er.put h (set_put h hs)
        have wd' : Wd F H (f ++ rest) C.fb := wd.less ns
        have ff : ∀ p ∈ f, F p = none := fun p hp => wd'.un p (List.mem_append_left _ hp)
        have rf := ro.freeze (F' := glue F H f) (glue_ext ff) hz fun p hp => glue_in hp
        obtain ⟨fp', er', n1, n2⟩ := m (F' := glue F H f) (H' := H) (f' := []) (glue_ext ff) (fun _ _ => rfl) (fun _ _ => rfl) (.frz rf)
        exact ⟨v, hv, post.retS (Go.freeze ns.1 ff) wd'.freeze n1 er' rf fun z => by cases z⟩
    · simp only [frz?, hz, if_false, Bool.false_eq_true] at post; exact post.elim
theorem comp_gl {k : Nat} {v : V} {d : D} (h : ∀ F, Rf C.K F v d) : Comp C (RV C.K false) true (tC v) (evE C.phi (.gl k d)) := by
  intro σ H e F fp Q er wd post
  simp only [evE] at post
  exact post.retS (.refl F H fp) wd (.refl fp) er (h F) fun _ => ⟨.refl _, rfl⟩
theorem comp_fz {a : LE} {p : Bool} {t : TE} (h : Comp C (RV C.K false) p t (evE C.phi a)) : Comp C (RV C.K false) p t (evE C.phi (.fz a)) := by
  intro σ H e F fp Q er wd post
  simp only [evE] at post
  refine h.bind er wd post fun x e1 v F1 H1 f fp1 g1 w1 er1 r1 pu1 post1 => ?_
  have ro : Ro C.K F1 H1 v x f := r1
  by_cases hz : canF x = true
  · simp only [frz?, hz, if_true, lift] at post1
    have ff : ∀ p ∈ f, F1 p = none := fun p hp => w1.un p (List.mem_append_left _ hp)
    have rf := ro.freeze (F' := glue F1 H1 f) (glue_ext ff) hz fun p hp => glue_in hp
    exact post1.retS (g1.trans (Go.freeze (fun _ h => h) ff)) w1.freeze (.refl _) (er1.mono (glue_ext ff) (fun _ _ => rfl) fun _ _ => rfl) rf pu1
  · simp only [frz?, hz, if_false, Bool.false_eq_true, lift] at post1; exact post1.elim
theorem comp_rd {a : LE} {p : Bool} {t : TE} (h : Comp C (RV C.K true) p t (evE C.phi a)) : Comp C (RV C.K false) p t (evE C.phi (.rd a)) := by
  intro σ H e F fp Q er wd post
  simp only [evE] at post
  refine h.bind er wd post fun x e1 v F1 H1 f fp1 g1 w1 er1 r1 pu1 post1 => ?_
  obtain ⟨hf, f', ro⟩ := (show f = [] ∧ ∃ f', Ro C.K F1 H1 v x f' from r1)
  subst hf
  by_cases hz : fzn x = true
  · simp only [hz, if_true] at post1
    exact post1.retS g1 w1 (.refl _) er1 (ro.frozen hz).1 pu1
  · simp only [hz, if_false, Bool.false_eq_true] at post1; exact post1.elim
end
end Z

set_option Elab.async false
set_option linter.all false
set_option maxRecDepth 100000
set_option maxHeartbeats 4000000
/-! ZR: rules of the machine that the hand layer lacks. -/
namespace Z
open PySem L2 PyProof.Rows

section
variable {X : Cx}
theorem ints_read {h : Heap} : ∀ {ns : List Int} {us : List Value}, Vals (ns.map V.int) us → ReadsAll h us (ns.map PyData.int) (ns.map fun _ => []).flatten
  | [], us, r => by cases r; exact .nil
  | n :: ns, us, r => by
    rw [List.map_cons] at r
    cases r with
    | cons r t =>
      obtain ⟨k, rfl⟩ := r
      exact .cons (.int n k) (ints_read t)
theorem ints_alike (ns : List Int) : PySem.W.AlikeAll (ns.map PyData.int) := by
  refine ⟨fun x hx y hy => ?_, fun x hx => ?_⟩
  · obtain ⟨a, _, rfl⟩ := List.mem_map.mp hx
    obtain ⟨b, _, rfl⟩ := List.mem_map.mp hy
    rfl
  · obtain ⟨a, _, rfl⟩ := List.mem_map.mp hx
    intro z; cases z
theorem ints_depth : ∀ ns : List Int, PyData.depthAll (ns.map PyData.int) = 0
  | [] => rfl
  | n :: ns => by
    rw [List.map_cons]
    simp only [PyData.depthAll, PyData.depth, ints_depth ns]
    rfl
theorem int_of_reads {h : Heap} {v : Value} {i : Int} {bs : List Addr} (r : Reads h v (.int i) bs) : ∃ t, v = .int i t := by
  cases r with
  | int _ t => exact ⟨t, rfl⟩
def rExt (K : PySem.W.Frag) (f : Int → Int → Int) : List V → Hp → VK → Prop := fun vs H Q => ∃ a n ns, vs = [.ref a] ∧ (SqL K H a ((n :: ns).map V.int) ∨ SqT K H a ((n :: ns).map V.int)) ∧ Q (.int (ns.foldl f n)) H
theorem call_maxS (hc : X.calm = true) (hu : X.A.units + 64 < cLine) : CallR X (.builtin "max") (rExt X.K max) := by
  intro pins s σ H xs us Q I r h
  obtain ⟨a, n, ns, rfl, hs, q⟩ := h
  rw [Vals.ref1 r]
  have e0 : PyData.depthAll ((n :: ns).map PyData.int) = 0 := ints_depth _
  have hd : X.A.units + 1 + PyData.depthAll (PyData.int n :: ns.map PyData.int) < cLine := by
    have e1 : PyData.depthAll (PyData.int n :: ns.map PyData.int) = 0 := e0
    rw [e1]; omega
  have fin : ∀ (i : Nat) (v : Value) (h' : Heap) (tk : Nat) (bs : List Addr), Reads h' v (PySem.W.maxD (.int n) (ns.map .int)) bs → (∀ b o, s.heap.get? b = some o → h'.get? b = some o) → EP X pins σ Q v { s with heap := h', toks := tk } := fun i v h' tk bs rd k => by
    rw [PySem.W.maxD_ints] at rd
    obtain ⟨t, rfl⟩ := int_of_reads rd
    exact ⟨.int _, H, I.kept k, ⟨t, rfl⟩, q⟩
  rcases hs with hs | hs
  · obtain ⟨its, rv, hl, _⟩ := I.list hs
    exact PySem.W.max_list_data (I.ok.hd hc) hl.isList (by simpa using ints_read rv) (ints_alike (n :: ns)) hd fun i v h' tk bs _ rd k => fin i v h' tk bs rd k
  · obtain ⟨its, rv, hl, _⟩ := I.tuple hs
    exact PySem.W.max_tuple_data (I.ok.hd hc) (show s.heap.IsTuple a its.toArray from hl) (by simpa using ints_read rv) (ints_alike (n :: ns)) hd fun i v h' tk bs _ rd k => fin i v h' tk bs rd k
theorem call_minS (hc : X.calm = true) (hu : X.A.units + 64 < cLine) : CallR X (.builtin "min") (rExt X.K min) := by
  intro pins s σ H xs us Q I r h
  obtain ⟨a, n, ns, rfl, hs, q⟩ := h
  rw [Vals.ref1 r]
  have e0 : PyData.depthAll ((n :: ns).map PyData.int) = 0 := ints_depth _
  have hd : X.A.units + 1 + PyData.depthAll (PyData.int n :: ns.map PyData.int) < cLine := by
    have e1 : PyData.depthAll (PyData.int n :: ns.map PyData.int) = 0 := e0
    rw [e1]; omega
  have fin : ∀ (i : Nat) (v : Value) (h' : Heap) (tk : Nat) (bs : List Addr), Reads h' v (PySem.W.minD (.int n) (ns.map .int)) bs → (∀ b o, s.heap.get? b = some o → h'.get? b = some o) → EP X pins σ Q v { s with heap := h', toks := tk } := fun i v h' tk bs rd k => by
    rw [PySem.W.minD_ints] at rd
    obtain ⟨t, rfl⟩ := int_of_reads rd
    exact ⟨.int _, H, I.kept k, ⟨t, rfl⟩, q⟩
  rcases hs with hs | hs
  · obtain ⟨its, rv, hl, _⟩ := I.list hs
    exact PySem.W.min_list_data (I.ok.hd hc) hl.isList (by simpa using ints_read rv) (ints_alike (n :: ns)) hd fun i v h' tk bs _ rd k => fin i v h' tk bs rd k
  · obtain ⟨its, rv, hl, _⟩ := I.tuple hs
    exact PySem.W.min_tuple_data (I.ok.hd hc) (show s.heap.IsTuple a its.toArray from hl) (by simpa using ints_read rv) (ints_alike (n :: ns)) hd fun i v h' tk bs _ rd k => fin i v h' tk bs rd k

/-! three numbers -/
theorem call_max3S (hc : X.calm = true) : CallR X (.builtin "max") (fun xs H Q => ∃ i j k, xs = [.int i, .int j, .int k] ∧ Q (.int (max (max i j) k)) H) := by
  intro pins s σ H xs us Q I r h
  obtain ⟨i, j, k, rfl, q⟩ := h
  refine call_max3Nu hc pins s σ H _ us Q I r ⟨.int i, .int j, .int k, .int (max (max i j) k), rfl, ?_, q⟩
  have e : ∀ a b : Int, nuMax2 (.int a) (.int b) = some (.int (max a b)) := fun a b => by
    show (some (decide (a < b))).map _ = _
    simp only [Option.map_some, decide_eq_true_eq]
    congr 1
    split
    · congr 1; omega
    · congr 1; omega
  unfold nuMax3
  rw [e, Option.bind_some, e]
theorem call_min3S (hc : X.calm = true) : CallR X (.builtin "min") (fun xs H Q => ∃ i j k, xs = [.int i, .int j, .int k] ∧ Q (.int (min (min i j) k)) H) := by
  intro pins s σ H xs us Q I r h
  obtain ⟨i, j, k, rfl, q⟩ := h
  refine call_min3Nu hc pins s σ H _ us Q I r ⟨.int i, .int j, .int k, .int (min (min i j) k), rfl, ?_, q⟩
  have e : ∀ a b : Int, nuMin2 (.int a) (.int b) = some (.int (min a b)) := fun a b => by
    show (some (decide (b < a))).map _ = _
    simp only [Option.map_some, decide_eq_true_eq]
    congr 1
    split
    · congr 1; omega
    · congr 1; omega
  unfold nuMin3
  rw [e, Option.bind_some, e]
/-! text * int -/
theorem rep_str (a : List Nat) : ∀ n : Nat, (List.replicate n a.toArray).foldl (· ++ ·) #[] = ((List.replicate n a).flatten).toArray := by
  have h : ∀ (n : Nat) (acc : List Nat), (List.replicate n a.toArray).foldl (· ++ ·) acc.toArray = (acc ++ (List.replicate n a).flatten).toArray := by
    intro n
    induction n with
    | zero => intro acc; simp
    | succ n ih =>
      intro acc
      rw [List.replicate_succ, List.foldl_cons, List.append_toArray, ih, List.replicate_succ, List.flatten_cons, List.append_assoc]
  intro n
  have := h n []
  simpa using this
theorem op_mulS : OpR X (binaryOp .Mult) (fun x y H Q => ∃ (a : List Nat) (k : Int), x = stV a ∧ y = .int k ∧ -9223372036854775808 ≤ k ∧ k < 9223372036854775808 ∧ a.length * k.toNat ≤ 1000000 ∧ Q (stV (List.replicate k.toNat a).flatten) H) := by
  intro pins s σ H x y v u Q I rx ry h
  obtain ⟨a, k, rfl, rfl, h1, h2, h3, q⟩ := h
  obtain ⟨t, rfl⟩ := rx
  obtain ⟨t', rfl⟩ := ry
  have el : (⟨a.toArray⟩ : Str).length = a.length := by show a.toArray.size = _; simp
  have hb : ((a.length : Nat) : Int) ≤ 1000000 ∨ k < 1 := by
    by_cases hk : k < 1
    · exact .inr hk
    · left
      have : 1 ≤ k.toNat := by omega
      have := Nat.mul_le_mul_left a.length this
      omega
  refine PySem.P.mul_str (by
      have e1 : ¬ k < -(2 ^ 63 : Int) := Int.not_lt.mpr h1
      have e2 : ¬ k ≥ (2 ^ 63 : Int) := Int.not_le.mpr h2
      rw [decide_eq_false e1, decide_eq_false e2]; rfl) (fun hk _ => ?_) (fun hk _ => ?_) ?_
  · rw [el]
    have h4 : ((a.length : Nat) : Int) * k ≤ 1000000 := by
      have : (k.toNat : Int) = k := by omega
      rw [← this, ← Int.natCast_mul]
      exact Int.le_trans (Int.ofNat_le.mpr h3) (by decide)
    have h5 : ((a.length : Nat) : Int) * k ≤ 2 ^ 63 - 1 := Int.le_trans h4 (by decide)
    have : (a.length : Int) ≤ (2 ^ 63 - 1) / k := (Int.le_ediv_iff_mul_le (by omega)).mpr h5
    exact Int.not_lt.mpr this
  · rw [el]
    have hz : ¬ (a.length * k.toNat > sizeLine) := by
      rw [sizeLine_eq]
      exact Nat.not_lt.mpr (Nat.le_trans h3 (by decide))
    exact decide_eq_false hz
  · split
    · rename_i hk
      have e : k.toNat = 0 := by omega
      refine ⟨by decide, ?_⟩
      rw [e] at q
      exact ⟨stV (List.replicate 0 a).flatten, H, I.tok _, ⟨s.toks, rfl⟩, q⟩
    · split
      · rename_i hk he
        simp only [Bool.or_eq_true, beq_iff_eq] at he
        have e : (List.replicate k.toNat a).flatten = a := by
          rcases he with he | he
          · subst he; simp
          · rw [el] at he
            have : a = [] := List.length_eq_zero_iff.mp he
            subst this; simp
        rw [e] at q
        exact ⟨stV a, H, I, ⟨t, rfl⟩, q⟩
      · refine ⟨?_, ?_⟩
        · show Array.size _ ≤ sizeLine
          rw [rep_str, sizeLine_eq, List.size_toArray, List.length_flatten]
          simp only [List.map_replicate, List.sum_replicate_nat]
          rw [Nat.mul_comm]
          exact Nat.le_trans h3 (by decide)
        · refine ⟨stV (List.replicate k.toNat a).flatten, H, I.tok _, ⟨s.toks, ?_⟩, q⟩
          rw [rep_str]

/-! t[::-1] of a tuple -/
theorem adjust_rev (n : Nat) : Builtin.Slice.sliceAdjust none none (-1) (n : Int) = ((n : Int) - 1, -1) := rfl
theorem places_rev (n : Nat) : Builtin.Slice.slicePlaces ((n : Int) - 1) (-1) (-1) = n := by
  unfold Builtin.Slice.slicePlaces
  have h1 : ¬ ((-1 : Int) > 0) := by decide
  simp only [h1, if_false]
  split
  · rw [show (- -1 : Int) = 1 by decide, Int.ediv_one]; omega
  · omega
theorem sliceApplied_rev {prog : Program} {w : World} {A : Around} {E : Value → Shared → Prop} {s : Shared} {sl : Addr} {vl vu vs : Value} {n : Nat} {Q : Int × Int × Nat → Shared → Prop} (hs : s.heap.IsSliceOf sl vl vu vs) (pl : IsPart vl none) (pu : IsPart vu none) (ps : IsPart vs (some (-1)))
    (h : Q ((n : Int) - 1, -1, n) s) : wpAny (model prog w) A (Builtin.Slice.sliceApplied (.ref sl) (pure (n : Int))) Q E s := by
  obtain ⟨os, hos, hcs, hds⟩ := id hs
  unfold Builtin.Slice.sliceApplied Builtin.Slice.sliceFields
  refine wpAny_bind (wpAny_bind (wpAny_field hos hds (x := vl) rfl (wpAny_bind (wpAny_field hos hds (x := vu) rfl (wpAny_bind (wpAny_field hos hds (x := vs) rfl (wpAny_pure ?_)))))))
  refine wpAny_bind (HT.slicePart_ ps ?_)
  show wpAny _ _ (if ((-1 : Int) == 0) = true then _ else _) _ _ s
  rw [if_neg (by decide)]
  refine wpAny_bind (HT.slicePart_ pl (wpAny_bind (HT.slicePart_ pu (wpAny_bind (wpAny_pure ?_)))))
  show wpAny _ _ (match Builtin.Slice.sliceAdjust none none (-1) (n : Int) with | (lo, hi) => pure (lo, (-1 : Int), Builtin.Slice.slicePlaces lo hi (-1))) _ _ s
  rw [adjust_rev]
  show wpAny _ _ (pure ((n : Int) - 1, (-1 : Int), Builtin.Slice.slicePlaces ((n : Int) - 1) (-1) (-1))) _ _ s
  rw [places_rev]
  exact wpAny_pure h
theorem pick_rev (xs : Array Value) : ((List.range xs.size).filterMap fun (k : Nat) => xs[(((xs.size : Int) - 1) + (k : Int) * (-1)).toNat]?).toArray = xs.toList.reverse.toArray := by
  have e : ∀ k ∈ List.range xs.size, xs[(((xs.size : Int) - 1) + (k : Int) * (-1)).toNat]? = xs[xs.size - 1 - k]? := fun k hk => by
    have := List.mem_range.mp hk
    congr 1
    omega
  have fc : ∀ {l : List Nat} {f g : Nat → Option Value}, (∀ k ∈ l, f k = g k) → l.filterMap f = l.filterMap g := fun {l f g} h => by
    induction l with
    | nil => rfl
    | cons a l ih => rw [List.filterMap_cons, List.filterMap_cons, h a List.mem_cons_self, ih fun k hk => h k (List.mem_cons_of_mem _ hk)]
  rw [fc e]
  have := PySem.W.krv_range xs.size
  have e2 : (List.range xs.size).filterMap (fun k => xs[xs.size - 1 - k]?) = ((List.range xs.size).map fun k => xs.size - 1 - k).filterMap (xs[·]?) := by
    rw [List.filterMap_map]; rfl
  rw [e2, this, List.filterMap_reverse, PySem.W.krv_all]
theorem getItem_tuple_rev {prog : Program} {w : World} {A : Around} {E : Value → Shared → Prop} {s : Shared} {t sl : Addr} {items : Array Value} {vl vu vs : Value} {Q : Value → Shared → Prop} (ht : IsTup s.heap t items) (hs : s.heap.IsSliceOf sl vl vu vs) (pl : IsPart vl none) (pu : IsPart vu none) (ps : IsPart vs (some (-1)))
    (h : Q (.ref s.heap.objs.size) { s with heap := s.heap.push { cls := .type "tuple", data := .seq items.toList.reverse.toArray } })
    (hsz : items.size ≤ sizeLine) : wpAny (model prog w) A (getItem (.ref t) (.ref sl)) Q E s := by
  have htake : sizeOk (.seq items.toList.reverse.toArray) := by
    show items.toList.reverse.toArray.size ≤ sizeLine
    simpa using hsz
  obtain ⟨os, hos, hcs, hds⟩ := id hs
  have hTs : s.TypeIs (.ref sl) "slice" := ⟨os, hos, hcs⟩
  unfold getItem
  try with_reducible refine wpAny_holding ?_
  first | refine wpAny_bind (wpAny_pure ?_) | skip
  refine wpAny_bind (wpAny_sequenceKey ht.typeIs (by decide) ?_)
  refine wpAny_bind (wpAny_callSpecial?_slot (name := Str.ofString "__getitem__") ht.typeIs PyProof.Rows.slot_tuple_getitem
    (wpAny_call_entry PyProof.Rows.slot_tuple_getitem ht.typeIs entry_tuple_getitem ?_ (args_tuple_getitem _ _)))
  show wpAny _ _ (Builtin.Tuple.tupleItemsOf (.ref t) >>= _) _ _ s
  refine wpAny_bind (PyProof.Rows.tupleItemsOf_ ht ?_)
  refine wpAny_bind (wpAny_typeOf hTs ?_)
  rw [if_pos (by decide)]
  refine wpAny_bind (sliceApplied_rev hs pl pu ps ?_)
  have hno : ¬ ((((items.size : Int) - 1) == 0 && (-1 : Int) == 1 && items.size == items.size) = true) := by
    intro q
    rw [Bool.and_eq_true, Bool.and_eq_true] at q
    exact absurd q.1.2 (by decide)
  show wpAny _ _ (if (((items.size : Int) - 1) == 0 && (-1 : Int) == 1 && items.size == items.size) = true then _ else _) _ _ s
  rw [if_neg hno, pick_rev]
  first
    | exact wpAny_bind (m := Builtin.Tuple.tupleExact _) (wpAny_newObj_type (wpAny_pure ⟨_, rfl, wpAny_pure h⟩) htake)
    | exact wpAny_bind (m := Builtin.Tuple.tupleExact _) (wpAny_newObj_type (wpAny_bind (wpAny_pure (wpAny_pure ⟨_, rfl, wpAny_pure h⟩))) htake)

def tRevT (K : PySem.W.Frag) (te : TE) : TE := fun σ H Q => te σ H fun x H1 => ∃ a xs, x = .ref a ∧ ((SqL K H1 a xs ∧ ∀ p, H1 p = none → Q (.ref p) (upd H1 p (.lst xs.reverse))) ∨ (SqT K H1 a xs ∧ ∀ p, H1 p = none → Q (.ref p) (upd H1 p (.tup xs.reverse))))
theorem pe_rev {e : Expr} {te : TE} {k : Nat} {p1 p2 p3 pos : Pos} (he : PE X e te) : PE X (.Subscript e (.Slice none none (some (.UnaryOp .USub (.Constant (.int 1) k p1) p2)) p3) pos) (tRevT X.K te) := by
  refine ⟨fun pins s σ H Q I h => ?_⟩
  refine Subscript_ (thn (he.run pins s σ H _ I h) fun v s1 ⟨x, H1, I1, r1, q1⟩ => ?_)
  obtain ⟨a, xs, ex, hx⟩ := q1
  subst ex
  cases r1
  have hst : PO X (some (.UnaryOp .USub (.Constant (.int 1) k p1) p2)) (tPart (tUn (rU fun i => .int (-i)) (tC (.int 1)))) := po_some (pe_un un_neg pe_int)
  refine wpAny_Slice (thn (po_none.run pins s1 σ H1 (fun o H2 => o = none ∧ H2 = H1) I1 ⟨rfl, rfl⟩) fun vl s2 ⟨l, H2, I2, pl, el, e2⟩ => ?_)
  subst el e2
  refine thn (po_none.run pins s2 σ H2 (fun o H3 => o = none ∧ H3 = H2) I2 ⟨rfl, rfl⟩) fun vu s3 ⟨u, H3, I3, pu, eu, e3⟩ => ?_
  subst eu e3
  refine thn (hst.run pins s3 σ H3 (fun o H4 => o = some (-1) ∧ H4 = H3) I3 ⟨1, rfl, -1, rfl, rfl, rfl⟩) fun vs s4 ⟨o, H4, I4, ps, eo, e4⟩ => ?_
  subst eo e4
  have I5 : Inv X pins σ H4 { s4 with heap := s4.heap.push { cls := .type "slice", data := .fields #[vl, vu, vs] } } := I4.kept (t' := s4.toks) fun b ob q => Heap.get?_push_of_some _ q
  show wpAny (model X.prog X.w) X.A (subscriptTail e (.Slice none none (some (.UnaryOp .USub (.Constant (.int 1) k p1) p2)) p3) (.ref a) (.ref s4.heap.objs.size)) (EP X pins σ Q) X.xe { s4 with heap := s4.heap.push { cls := .type "slice", data := .fields #[vl, vu, vs] } }
  rcases hx with ⟨hx, q⟩ | ⟨hx, q⟩
  · obtain ⟨its, r, ht, hz⟩ := I5.list hx
    have hlen := r.length
    refine tail_any (ops := [.ref a, .ref s4.heap.objs.size]) ht.isList.typeIs (PySem.slot_list_getitem.lookup) ?_ (by with_unfolding_all rfl)
    refine wpAny_getItem_list_slice ht.isList (Heap.IsSliceOf.new _ vl vu vs) pl pu ps (by decide) ?_ (by rw [List.size_toArray]; omega)
    rw [PySem.W.krv_pick]
    refine ⟨.ref _, _, I5.laid (t' := s4.toks) (o := .lst xs.reverse) (fun b ob q => Heap.get?_push_of_some _ q) (Nat.le_refl _) ?_, rfl, q _ (I5.hok.fresh (Nat.le_refl _))⟩
    exact ⟨by rw [List.length_reverse]; exact hz, _, 0, r.reverse, Heap.get?_push_size _ rfl⟩
  · obtain ⟨its, r, ht, hz⟩ := I5.tuple hx
    have hlen := r.length
    refine tail_any (ops := [.ref a, .ref s4.heap.objs.size]) ht.typeIs (PyProof.Rows.slot_tuple_getitem.lookup) ?_ (by with_unfolding_all rfl)
    refine getItem_tuple_rev ht (Heap.IsSliceOf.new _ vl vu vs) pl pu ps ?_ (by rw [List.size_toArray]; omega)
    refine ⟨.ref _, _, I5.laid (t' := s4.toks) (o := .tup xs.reverse) (fun b ob q => Heap.get?_push_of_some _ q) (Nat.le_refl _) ?_, rfl, q _ (I5.hok.fresh (Nat.le_refl _))⟩
    exact ⟨by rw [List.length_reverse]; exact hz, _, r.reverse, IsTup.new _ _⟩
/-! xs[a:c] = ys -/
def gSl (to tl th : TE) : TG := fun y σ H Q => to σ H fun x H1 => tl σ H1 fun l H2 => ∃ i, l = .int i ∧ th σ H2 fun h H3 => ∃ j, h = .int j ∧ ∃ a b xs ys, x = .ref a ∧ y = .ref b ∧ H3 a = some (.lst xs) ∧ H3 b = some (.lst ys) ∧ a ≠ b ∧ 0 ≤ i ∧ i ≤ j ∧ j ≤ xs.length ∧ xs.length + ys.length ≤ sizeLine ∧
  Q σ (upd H3 a (.lst (xs.take i.toNat ++ ys ++ xs.drop j.toNat)))
theorem part_some {v : Value} {i : Int} (h : IsPart v (some i)) : RelV (.int i) v := by
  cases h with
  | int _ t => exact ⟨t, rfl⟩
theorem pg_sl {o lo hi : Expr} {to tl th : TE} {p1 pos : Pos} (ho : PE X o to) (hl : PE X lo tl) (hh : PE X hi th) : PG X (.Subscript o (.Slice (some lo) (some hi) none p1) pos) (gSl to tl th) := by
  refine ⟨fun pins s σ H v u Q I r h => ?_⟩
  have e0 : assign (.Subscript o (.Slice (some lo) (some hi) none p1) pos) X.env u = (do
      let ov ← holding [u] (eval o X.env)
      let iv ← holding [u, ov] (eval (.Slice (some lo) (some hi) none p1) X.env)
      standAt pos
      holding [u, ov, iv] (setItem ov iv u)
      release [iv, u, ov] []) := rfl
  rw [e0]
  refine wpAny_bind (wpAny_holding (thn (ho.run pins s σ H _ I h) fun ov s1 ⟨x, H1, I1, r1, q1⟩ => ?_))
  refine wpAny_bind (wpAny_holding ?_)
  refine wpAny_Slice (thn ((po_some hl).run pins s1 σ H1 (fun o H2 => ∃ i, o = some i ∧ th σ H2 fun h H3 => ∃ j, h = .int j ∧ ∃ a b xs ys, x = .ref a ∧ v = .ref b ∧ H3 a = some (.lst xs) ∧ H3 b = some (.lst ys) ∧ a ≠ b ∧ 0 ≤ i ∧ i ≤ j ∧ j ≤ xs.length ∧ xs.length + ys.length ≤ sizeLine ∧
    Q σ (upd H3 a (.lst (xs.take i.toNat ++ ys ++ xs.drop j.toNat)))) I1 ?_) fun vl s2 ⟨l, H2, I2, pl, i, el, q2⟩ => ?_)
  · have e1 : tPart tl σ H1 (fun o H2 => ∃ i, o = some i ∧ th σ H2 fun h H3 => ∃ j, h = .int j ∧ ∃ a b xs ys, x = .ref a ∧ v = .ref b ∧ H3 a = some (.lst xs) ∧ H3 b = some (.lst ys) ∧ a ≠ b ∧ 0 ≤ i ∧ i ≤ j ∧ j ≤ xs.length ∧ xs.length + ys.length ≤ sizeLine ∧
      Q σ (upd H3 a (.lst (xs.take i.toNat ++ ys ++ xs.drop j.toNat)))) = tl σ H1 fun l H2 => ∃ i, l = .int i ∧ ∃ i', some i = some i' ∧ th σ H2 fun h H3 => ∃ j, h = .int j ∧ ∃ a b xs ys, x = .ref a ∧ v = .ref b ∧ H3 a = some (.lst xs) ∧ H3 b = some (.lst ys) ∧ a ≠ b ∧ 0 ≤ i' ∧ i' ≤ j ∧ j ≤ xs.length ∧ xs.length + ys.length ≤ sizeLine ∧
      Q σ (upd H3 a (.lst (xs.take i'.toNat ++ ys ++ xs.drop j.toNat))) := rfl
    rw [e1]
    simpa using q1
  · subst el
    refine thn ((po_some hh).run pins s2 σ H2 (fun o H3 => ∃ j, o = some j ∧ ∃ a b xs ys, x = .ref a ∧ v = .ref b ∧ H3 a = some (.lst xs) ∧ H3 b = some (.lst ys) ∧ a ≠ b ∧ 0 ≤ i ∧ i ≤ j ∧ j ≤ xs.length ∧ xs.length + ys.length ≤ sizeLine ∧
      Q σ (upd H3 a (.lst (xs.take i.toNat ++ ys ++ xs.drop j.toNat)))) I2 ?_) fun vu s3 ⟨h', H3, I3, pu, j, ej, q3⟩ => ?_
    · have e1 : tPart th σ H2 (fun o H3 => ∃ j, o = some j ∧ ∃ a b xs ys, x = .ref a ∧ v = .ref b ∧ H3 a = some (.lst xs) ∧ H3 b = some (.lst ys) ∧ a ≠ b ∧ 0 ≤ i ∧ i ≤ j ∧ j ≤ xs.length ∧ xs.length + ys.length ≤ sizeLine ∧
        Q σ (upd H3 a (.lst (xs.take i.toNat ++ ys ++ xs.drop j.toNat)))) = th σ H2 fun h H3 => ∃ i', h = .int i' ∧ ∃ j, some i' = some j ∧ ∃ a b xs ys, x = .ref a ∧ v = .ref b ∧ H3 a = some (.lst xs) ∧ H3 b = some (.lst ys) ∧ a ≠ b ∧ 0 ≤ i ∧ i ≤ j ∧ j ≤ xs.length ∧ xs.length + ys.length ≤ sizeLine ∧
        Q σ (upd H3 a (.lst (xs.take i.toNat ++ ys ++ xs.drop j.toNat))) := rfl
      rw [e1]
      simpa using q2
    · subst ej
      refine thn (po_none.run pins s3 σ H3 (fun o H4 => o = none ∧ H4 = H3) I3 ⟨rfl, rfl⟩) fun vs s4 ⟨o, H4, I4, ps, eo, e4⟩ => ?_
      subst eo e4
      obtain ⟨a, b, xs, ys, rfl, rfl, ha, hb, hne, h0, h1, h2, h3, q⟩ := q3
      cases r1
      cases r
      cases ps
      have I5 : Inv X pins σ H4 { s4 with heap := s4.heap.push { cls := .type "slice", data := .fields #[vl, vu, .none] } } := I4.kept (t' := s4.toks) fun b ob q => Heap.get?_push_of_some _ q
      refine wpAny_bind (wpAny_standAt (wpAny_bind (wpAny_holding ?_)))
      exact set_slice I5 ha hb hne (Heap.IsSliceOf.new _ vl vu .none) (part_some pl) (part_some pu) h0 h1 h2 h3 fun s' I6 => wpAny_release ⟨σ, _, I6, q⟩
end
section
variable {X : Cx}
/-! a display of texts, looked up at once -/
def cvK (p : List Nat × List Nat) : Key × V := (.inr ⟨p.1.toArray⟩, stV p.2)
def dlK (ps : List (List Nat × List Nat)) : List (Key × V) := mergeK [] (ps.map cvK)
def tDlk (ps : List (List Nat × List Nat)) (ty : TE) : TE := fun σ H Q => ∀ p, H p = none → ty σ (upd H p (.dK (dlK ps))) fun y H2 => ∃ a v, V.ref p = .ref a ∧ DGet H2 a y (some v) ∧ Q v H2
theorem valV_lk (k : List Nat) : ∀ (ps : List (List Nat × List Nat)) (acc : List (Key × V)) (r : Option (List Nat)), valV acc (.inr ⟨k.toArray⟩) = r.map stV → valV (mergeK acc (ps.map cvK)) (.inr ⟨k.toArray⟩) = (lkS ps k r).map stV
  | [], acc, r, h => h
  | p :: ps, acc, r, h => by
    have e : mergeK acc ((p :: ps).map cvK) = mergeK (putK acc (cvK p).1 (cvK p).2) (ps.map cvK) := rfl
    rw [e]
    refine valV_lk k ps _ _ ?_
    rw [valV_put]
    by_cases hk : p.1 = k
    · have : (Sum.inr ⟨k.toArray⟩ : Key) = (cvK p).1 := by rw [← hk]; rfl
      rw [if_pos this, if_pos hk]; rfl
    · have : ¬ (Sum.inr ⟨k.toArray⟩ : Key) = (cvK p).1 := fun z => hk (by
        unfold cvK at z
        injection z with z
        injection z with z
        have := congrArg Array.toList z
        simpa using this.symm)
      rw [if_neg this, if_neg hk, h]
def cPairs (ps : List (List Nat × List Nat)) : List (TE × TE) := ps.map fun p => (tC (stV p.1), tC (stV p.2))
theorem tPairs_c {σ : L2.St} : ∀ (ps : List (List Nat × List Nat)) (H : Hp) (Q : List (V × V) → Hp → Prop), Q (ps.map fun p => (stV p.1, stV p.2)) H → tPairs (cPairs ps) σ H Q
  | [], H, Q, h => h
  | p :: ps, H, Q, h => tPairs_c ps H (fun r H3 => Q ((stV p.1, stV p.2) :: r) H3) h
def cKs : List (List Nat × List Nat) → List (Option Expr) → List Expr → Bool
  | [], [], [] => true
  | p :: ps, some (.Constant (.str k) _ _) :: ks, .Constant (.str v) _ _ :: vs => decide (k.cps.toList = p.1) && decide (v.cps.toList = p.2) && cKs ps ks vs
  | _, _, _ => false
theorem pps_c {pos : Pos} : ∀ {ps : List (List Nat × List Nat)} {ks : List (Option Expr)} {vs : List Expr}, cKs ps ks vs = true → PPs X pos ks vs (cPairs ps) ∧ ks.all (·.isSome) = true ∧ ks.length = vs.length ∧ ks.length = ps.length
  | [], ks, vs, h => by
    cases ks with
    | nil => cases vs with
      | nil => exact ⟨pps_nil, rfl, rfl, rfl⟩
      | cons _ _ => simp [cKs] at h
    | cons _ _ => simp [cKs] at h
  | p :: ps, ks, vs, h => by
    unfold cKs at h
    split at h
    · cases ‹_ :: _ = []›
    · rename_i p' ps' k i1 q1 ks' v i2 q2 vs' e
      obtain ⟨rfl, rfl⟩ := List.cons.inj e
      simp only [Bool.and_eq_true, decide_eq_true_eq] at h
      obtain ⟨⟨h1, h2⟩, h3⟩ := h
      obtain ⟨a, b, c, d⟩ := pps_c h3
      have e1 : ∀ s : Str, V.str s = stV s.cps.toList := fun s => by unfold stV; simp
      refine ⟨?_, by simp [b], by simp [c], by simp [d]⟩
      have := pps_cons (pos := pos) (pe_str (X := X) (x := k) (j := i1) (pos := q1)) (pe_str (X := X) (x := v) (j := i2) (pos := q2)) a
      rw [e1, e1, h1, h2] at this
      exact this
    · cases h
theorem pe_dlk {ps : List (List Nat × List Nat)} {ks : List (Option Expr)} {vs : List Expr} {i : Expr} {ty : TE} {dp pos : Pos} (hu : X.A.units + 1 < cLine) (hk : cKs ps ks vs = true) (h0 : ps ≠ []) (h15 : ps.length ≤ 15) (hi : PE X i ty) (hs : NoSl i) :
    PE X (.Subscript (.Dict ks vs dp) i pos) (tDlk ps ty) := by
  obtain ⟨a, b, c, d⟩ := pps_c (X := X) (pos := dp) hk
  have k := pe_dget (pos := pos) hu (pe_disp a b c (fun z => h0 (by
    rw [z] at d; exact List.length_eq_zero_iff.mp d.symm)) (by omega)) hi hs
  refine ⟨fun pins s σ H Q I hw => k.run pins s σ H Q I ?_⟩
  intro p hp
  refine tPairs_c (σ := σ) ps _ _ ?_
  refine ⟨upd_same, ps.map cvK, by rw [List.map_map]; rfl, by simpa using h15, ?_⟩
  rw [upd_upd]
  exact hw p hp
end
end Z

set_option Elab.async false
set_option linter.all false
set_option maxRecDepth 100000
set_option maxHeartbeats 4000000
/-! ZT: dicts whose keys are tuples of numbers: what may be done with them. -/
namespace Z
open PySem L2 PyProof.Rows
section
variable {P : Program} {w : World} {K : PySem.W.Frag} {F H : Hp} {h : Heap}
mutual
/-- what stands within a key, in the heap -/
theorem nest_of (hok : HOk P w H h) (KX : K.In h) (sm : Same F H) : ∀ (d : D) (n : Nat) (v : V) (f : List Addr) (u : Value), keyOk d n = true → Ro K F H v d f → RelV v u → NestedIs h (keyN d) u
  | .non, _, v, f, u, _, r, e => by
    have := r.non_inv; subst this
    obtain rfl : u = Value.none := e
    simp only [keyN]; exact .none
  | .int i, _, v, f, u, _, r, e => by
    have := r.int_inv; subst this
    obtain ⟨t, rfl⟩ : ∃ t, u = Value.int i t := e
    simp only [keyN]; exact .int i t
  | .tup m xs, n, v, f, u, hk, r, e => by
    simp only [keyOk, Bool.and_eq_true] at hk
    obtain ⟨a, ws, g, rfl, sq, ro, _⟩ := r.tup_inv sm
    obtain rfl : u = Value.ref a := e
    obtain ⟨its, o, k, hv, ho, hc, hd⟩ := sqT_at hok KX sq
    simp only [keyN]
    exact .tup ho hc hd (by simpa using nest_ofL hok KX sm xs _ ws g its hk.2 ro hv)
  | .bl _, n, _, _, _, hk, _, _ => by simp [keyOk] at hk
  | .str _, n, _, _, _, hk, _, _ => by simp [keyOk] at hk
  | .lst _ _, n, _, _, _, hk, _, _ => by simp [keyOk] at hk
  | .dic _ _, n, _, _, _, hk, _, _ => by simp [keyOk] at hk
  | .exc _ _, n, _, _, _, hk, _, _ => by simp [keyOk] at hk
  | .obj _ _ _, n, _, _, _, hk, _, _ => by simp [keyOk] at hk
  | .td _ _, n, _, _, _, hk, _, _ => by simp [keyOk] at hk
theorem nest_ofL (hok : HOk P w H h) (KX : K.In h) (sm : Same F H) : ∀ (d : List D) (n : Nat) (v : List V) (f : List Addr) (u : List Value), keyOkL d n = true → Ros K F H v d f → Vals v u → NestedAll h (keyNL d) u
  | [], _, _, _, _, _, r, e => by
    cases r; cases e
    simp only [keyNL]; exact .nil
  | x :: xs, n, _, _, _, hk, r, e => by
    simp only [keyOkL, Bool.and_eq_true] at hk
    cases r with
    | cons r1 r2 =>
      cases e with
      | cons e1 e2 =>
        simp only [keyNL]
        exact .cons (nest_of hok KX sm x n _ _ _ hk.1 r1 e1) (nest_ofL hok KX sm xs n _ _ _ hk.2 r2 e2)
end
theorem key_is (hok : HOk P w H h) (KX : K.In h) (sm : Same F H) {d : D} {x : V} {f : List Addr} {u : Value} (hd : keyT d = true) (r : Ro K F H x d f) (rx : RelV x u) :
    ∃ b, u = .ref b ∧ x = .ref b ∧ (nestedKind P w).is h (keyN d) b := by
  obtain ⟨h1, m, xs, rfl⟩ := keyT_ok hd
  have q := nest_of hok KX sm _ 8 x f u h1 r rx
  obtain ⟨a, ws, g, rfl, _, _, _⟩ := r.tup_inv sm
  obtain rfl : u = Value.ref a := rx
  exact ⟨a, rfl, rfl, q, depth_keyN _ 8 h1⟩
theorem keys_is (hok : HOk P w H h) (KX : K.In h) (sm : Same F H) : ∀ {ks : List D} {as : List Addr} {us : List Value}, ks.all keyT = true → Rfs K F (as.map V.ref) ks → ∀ x ∈ tdX ks as us, (nestedKind P w).is h x.1 x.2.1
  | [], _, _, _, _, x, hx => by simp [tdX] at hx
  | k :: ks, [], _, _, r, x, hx => by simp [tdX] at hx
  | k :: ks, a :: as, [], _, r, x, hx => by simp [tdX] at hx
  | k :: ks, a :: as, u :: us, hk, r, x, hx => by
    simp only [List.all_cons, Bool.and_eq_true] at hk
    rw [List.map_cons] at r
    cases r with
    | cons r1 r2 =>
      rcases List.mem_cons.mp hx with rfl | hx
      · obtain ⟨b, e, _, q⟩ := key_is (f := []) (H := H) hok KX sm hk.1 (.frz r1) (show RelV (V.ref a) (Value.ref a) from rfl)
        cases e
        exact q
      · exact keys_is hok KX sm hk.2 r2 x hx
theorem td_of (hok : HOk P w H h) (KX : K.In h) (sm : Same F H) {ks ds : List D} {y : V} {f : List Addr} (r : Ro K F H y (.td ks ds) f) :
    ∃ a as vs us, y = .ref a ∧ f = [a] ∧ H a = some (tdO a ks as vs) ∧ Rfs K F (as.map V.ref) ks ∧ ks.all keyT = true ∧ (ks.map keyN).Nodup ∧ ks.length = ds.length ∧ ks.length ≤ 16777216 ∧ Rfs K F vs ds ∧ ds.all scalD = true ∧
      (a == sysModules) = false ∧ Vals vs us ∧ as.length = ks.length ∧ us.length = ks.length ∧ h.DictOfH (nestedKind P w) a (tdX ks as us) := by
  cases r with
  | frz r => cases r
  | @td a _ _ as vs hH r1 h1 h2 h3 h4 r2 h5 =>
    obtain ⟨z1, us, o, es, ep, z2, z3, z4, z5, z6⟩ := tdO_at hok hH
    have la : as.length = ks.length := by have := r1.len; simpa using this
    have lu : us.length = ks.length := by rw [← z2.length, r2.len, h3]
    exact ⟨a, as, vs, us, rfl, rfl, hH, r1, h1, h2, h3, h4, r2, h5, z1, z2, la, lu, o, es, ep, z3, z4, z5, z6, keys_is hok KX sm h1 r1, by rw [tdX_keys ks as us la lu]; exact h2⟩
end
section
variable {X : Cx} {pins : List (Addr × Obj)} {σ : L2.St} {F H : Hp} {s : Shared} {x y : V} {v u : Value} {ks xs : List D} {f1 f2 : List Addr} {d1 : D}
theorem td_in {Q : VK} {r : Bool} (hu : X.A.units + 20 < cLine) (I : Inv X pins σ H s) (rx : RelV x v) (ry : RelV y u) (sm : Same F H) (r1 : Ro X.K F H x d1 f1) (r2 : Ro X.K F H y (.td ks xs) f2) (hb : isIn d1 (.td ks xs) = some r) (q : Q (.bl r) H) :
    wpAny (model X.prog X.w) X.A (compareOp .In v u) (EP X pins σ Q) X.xe s := by
  simp only [isIn] at hb
  split at hb
  · rename_i hk
    obtain ⟨b, rfl, rfl, kb⟩ := key_is I.hok I.kIn sm hk r1 rx
    obtain ⟨a, as, vs, us, rfl, rfl, hH, _, h1, h2, h3, h4, _, _, z1, z2, la, lu, d⟩ := td_of I.hok I.kIn sm r2
    obtain rfl : u = Value.ref a := ry
    refine wpAny_in_heap (knd := nestedKind X.prog X.w) (show X.A.units + 1 + 8 < cLine by omega) kb z1 d ?_
    rw [tdX_isSome hk h1 la lu]
    rw [Option.some.inj hb]
    exact ⟨.bl r, H, I.tok _, rfl, q⟩
  · cases hb
theorem td_notIn {Q : VK} {r : Bool} (hu : X.A.units + 20 < cLine) (I : Inv X pins σ H s) (rx : RelV x v) (ry : RelV y u) (sm : Same F H) (r1 : Ro X.K F H x d1 f1) (r2 : Ro X.K F H y (.td ks xs) f2) (hb : isIn d1 (.td ks xs) = some r) (q : Q (.bl (!r)) H) :
    wpAny (model X.prog X.w) X.A (compareOp .NotIn v u) (EP X pins σ Q) X.xe s := by
  simp only [isIn] at hb
  split at hb
  · rename_i hk
    obtain ⟨b, rfl, rfl, kb⟩ := key_is I.hok I.kIn sm hk r1 rx
    obtain ⟨a, as, vs, us, rfl, rfl, hH, _, h1, h2, h3, h4, _, _, z1, z2, la, lu, d⟩ := td_of I.hok I.kIn sm r2
    obtain rfl : u = Value.ref a := ry
    refine wpAny_notIn_heap (knd := nestedKind X.prog X.w) (show X.A.units + 1 + 8 < cLine by omega) kb z1 d ?_
    rw [tdX_isSome hk h1 la lu]
    rw [Option.some.inj hb]
    exact ⟨.bl (!r), H, I.tok _, rfl, q⟩
  · cases hb
theorem td_ix {Q : VK} {m : Bool} {ys : List D} {d3 : D} (hu : X.A.units + 20 < cLine) (value slice : Expr) (I : Inv X pins σ H s) (rx : RelV x v) (ry : RelV y u) (sm : Same F H) (r1 : Ro X.K F H x (.td ks xs) f1) (r2 : Ro X.K F H y (.tup m ys) f2)
    (hk : keyOkL ys 7 = true) (hb : ((tdI ks (.tup m ys)).bind fun j => xs[j]?) = some d3) (q : ∀ v f, Ro X.K F H v d3 f → NS f f1 → Q v H) (hs : subscripted slice false v u = operate [v, u] (getItem v u)) :
    wpAny (model X.prog X.w) X.A (subscriptTail value slice v u) (EP X pins σ Q) X.xe s := by
  have hk' : keyT (.tup m ys) = true := by unfold keyT; exact hk
  obtain ⟨b, rfl, rfl, kb⟩ := key_is I.hok I.kIn sm hk' r2 ry
  obtain ⟨a, as, vs, us, rfl, rfl, hH, _, h1, h2, h3, h4, rv, hsc, z1, z2, la, lu, d⟩ := td_of I.hok I.kIn sm r1
  obtain rfl : v = Value.ref a := rx
  rw [Option.bind_eq_some_iff] at hb
  obtain ⟨j, hj, hx⟩ := hb
  obtain ⟨a', u', e1, e2, e3⟩ := tdX_some hk' h1 la lu hj
  have hjl : j < vs.length := by rw [rv.len, ← h3]; exact tdI_lt hj
  obtain ⟨w1, e4, rw1⟩ := z2.get (i := j) (x := vs[j]) (by simp [hjl])
  rw [e2] at e4; cases e4
  obtain ⟨y', f', e5, ro, ns⟩ := (Rfs.ros (H := H) rv).get hx
  have : y' = vs[j] := by
    have : vs[j]? = some vs[j] := by simp [hjl]
    rw [this] at e5; exact (Option.some.inj e5).symm
  subst this
  have hsx : scalD d3 = true := (List.all_eq_true.mp hsc) _ (List.mem_of_getElem? hx)
  obtain ⟨rf, rfl⟩ := ro.scal hsx
  exact tail_any d.typeIs PySem.F.slot_dict_getitem.lookup (wpAny_getItem_heap (knd := nestedKind X.prog X.w) (show X.A.units + 1 + 8 < cLine by omega) kb d e3 ⟨_, H, I.tok _, rw1, q _ [] ro ⟨fun _ hx => (nomatch hx), fun _ => List.nodup_nil⟩⟩) hs
/-- d[k] = x -/
def rSetT (K : PySem.W.Frag) : TSet := fun o i v H Q => ∃ (F : Hp) (d1 : D) (ks ds : List D) (f1 f2 : List Addr), Same F H ∧ Ro K F H i d1 f1 ∧ keyT d1 = true ∧ Ro K F H o (.td ks ds) f2 ∧ ks.length < 16777216 ∧
  ∀ a b as vs, o = .ref a → i = .ref b → H a = some (tdO a ks as vs) → Rfs K F (as.map V.ref) ks → Rfs K F vs ds → Q (upd H a (match tdI ks d1 with | some j => tdO a ks as (vs.set j v) | none => tdO a (ks ++ [d1]) (as ++ [b]) (vs ++ [v])))
theorem set_td (hu : X.A.units + 20 < cLine) : PSet X (rSetT X.K) := by
  intro pins s σ H o i v ov iv u Q I ro ri rv h
  obtain ⟨F, d1, ks, ds, f1, f2, sm, r1, hk, r2, hl, q⟩ := h
  obtain ⟨b, rfl, rfl, kb⟩ := key_is I.hok I.kIn sm hk r1 ri
  obtain ⟨a, as, vs, us, rfl, rfl, hH, ra, h1, h2, h3, h4, rvs, hsc, z1, z2, la, lu, d⟩ := td_of I.hok I.kIn sm r2
  obtain rfl : ov = Value.ref a := ro
  have q := q a b as vs rfl rfl hH ra rvs
  have hz : (tdX ks as us).length ≤ sizeLine := by rw [tdX_len ks as us la lu, sizeLine_eq]; exact h4
  refine wpAny_setItem_heap (knd := nestedKind X.prog X.w) (hsz := hz) (show X.A.units + 1 + 8 < cLine by omega) kb d fun h' dd' hs => ?_
  have he : ∃ q, h'.get? a = some q := let ⟨q, _, _, hq, _⟩ := dd'; ⟨q, hq⟩
  cases hj : tdI ks d1 with
  | some j =>
    rw [hj] at q
    obtain ⟨a', u', _, _, e3⟩ := tdX_some hk h1 la lu hj
    rw [storedH_old e3, tdX_put hk u h1 h2 la lu hj] at dd'
    exact ⟨_, d_write I (by rw [hH]; exact True.intro) hs he (tdO_ok z1 (Vals.set rv j z2) dd'), q⟩
  | none =>
    rw [hj] at q
    have e3 : atKey (tdX ks as us) (keyN d1) = none := by rw [tdX_at hk ks as us h1 la lu, hj]; rfl
    rw [storedH_new e3, tdX_app ks as us d1 b u la lu] at dd'
    exact ⟨_, d_write I (by rw [hH]; exact True.intro) hs he (tdO_ok z1 (Vals.append z2 (.cons rv .nil)) dd'), q⟩
/-- {k: v} -/
def tDispT (K : PySem.W.Frag) (tk tv : TE) : TE := fun σ H Q => ∀ p, H p = none → tk σ (upd H p (tdO p [] [] [])) fun x H1 => tv σ H1 fun y H2 => H2 p = some (tdO p [] [] []) ∧
  ∃ F d1 b f, Same F H2 ∧ Ro K F H2 x d1 f ∧ keyT d1 = true ∧ x = .ref b ∧ Q (.ref p) (upd H2 p (tdO p [d1] [b] [y]))
theorem wpAny_Dict_rawH {prog : Program} {w : World} {A : Around} {E : Value → Shared → Prop} {s : Shared} {env : PySem.Env} {keys : List (Option Expr)} {values : List Expr} {pos : Pos} {Q : Value → Shared → Prop} (hu : (nestedKind prog w).room A)
    (hall : keys.all (·.isSome) = true) (hl : keys.length = values.length) (h0 : keys ≠ []) (h15 : keys.length ≤ 15)
    (h : wpAny (model prog w) A (evalPairs (pairTrees keys values env pos)) (fun vs s₁ => ∃ ps, CarriesH (nestedKind prog w) s₁.heap vs ps ∧ s₁.heap.DictOfH (nestedKind prog w) s.heap.objs.size [] ∧
      ∀ h' tk, h'.DictOfH (nestedKind prog w) s.heap.objs.size (storedAllH [] ps) → Heap.SameBut s.heap.objs.size s₁.heap h' → Q (.ref s.heap.objs.size) { s₁ with heap := h', toks := tk }) E
      { s with heap := s.heap.push { cls := .type "dict", data := .dict #[] } }) :
    wpAny (model prog w) A (eval (.Dict keys values pos) env) Q E s := by
  have hn := pairTrees_length keys values env pos hall hl
  have hne : pairTrees keys values env pos ≠ [] := fun he => by
    rw [he] at hn
    exact h0 (List.length_eq_zero_iff.mp hn.symm)
  rw [arm_eval_Dict, zip_pairTrees keys values env pos hall hl, dictDisplay_pairs _ hne (by omega)]
  exact wpAny_bind (wpAny_standAt (wpAny_bind (wpAny_subDictH (knd := nestedKind prog w) (Q := fun d s' => wpAny (model prog w) A (pure (Value.ref d)) Q E s') hu (by omega)
    (wpAny_mono h (fun vs s₁ h₁ => by obtain ⟨ps, hc, hm, hq⟩ := h₁; exact ⟨ps, hc, hm, fun h' tk a b => wpAny_pure (hq h' tk a b)⟩) fun _ _ e => e))))
theorem td_empty {P : Program} {w : World} {H : Hp} (h : Heap) (hb : sysModules < h.objs.size) : ObjOk P w H (h.push { cls := .type "dict", data := .dict #[] }) h.objs.size (tdO h.objs.size [] [] []) :=
  tdO_ok (us := []) (beq_eq_false_iff_ne.mpr (Ne.symm (Nat.ne_of_lt hb))) .nil (by simp only [tdX]; exact Heap.DictOfH.new h)
theorem pe_dispT {k e : Expr} {tk tv : TE} {pos : Pos} (hu : X.A.units + 20 < cLine) (hk : PE X k tk) (hv : PE X e tv) : PE X (.Dict [some k] [e] pos) (tDispT X.K tk tv) := by
  refine ⟨fun pins s σ H Q I q => ?_⟩
  have hn := I.hok.fresh (Nat.le_refl s.heap.objs.size)
  have I1 := I.laid (a := s.heap.objs.size) (o := tdO s.heap.objs.size [] [] []) (h' := s.heap.push { cls := .type "dict", data := .dict #[] }) (t' := s.toks) (fun _ _ q => Heap.get?_push_of_some _ q) (Nat.le_refl _) (td_empty s.heap I.big)
  refine wpAny_Dict_rawH (show X.A.units + 8 < cLine by omega) rfl rfl (by simp) (by simp) (pairTrees_cons_walk (thn (hk.run pins _ σ _ _ I1 (q _ hn)) fun kv s1 ⟨x, H1, I2, rx, q1⟩ => thn (hv.run pins s1 σ H1 _ I2 q1) fun w2 s2 ⟨y, H2, I3, ry, e, F, d1, b, f, sm, ro, kt, eb, q2⟩ => pairTrees_nil_walk ?_))
  obtain ⟨b', rfl, e', kb⟩ := key_is I3.hok I3.kIn sm kt ro rx
  rw [eb] at e'; cases e'
  obtain ⟨z1, us, o, es, ep, z2, z3, z4, z5, z6⟩ := tdO_at I3.hok e
  cases z2
  refine ⟨[(keyN d1, b, w2)], ⟨rfl, rfl, kb, trivial⟩, ⟨o, es, ep, z3, z4, z5, by rw [z6]; simp [tdX], by simp, by simp⟩, fun h' tk dd' hs => ⟨.ref s.heap.objs.size, _, ?_, rfl, q2⟩⟩
  have he : ∃ q, h'.get? s.heap.objs.size = some q := let ⟨q, _, _, hq, _⟩ := dd'; ⟨q, hq⟩
  exact d_write I3 (by rw [e]; exact True.intro) hs he (tdO_ok (us := [w2]) z1 (.cons ry .nil) (by simpa [tdX, storedAllH, storedH, atKey] using dd'))
end
end Z

set_option Elab.async false
set_option linter.all false
set_option maxRecDepth 100000
set_option maxHeartbeats 2000000
/-! ZZ: zip of a list and a tuple: two walkers of any kind, then the loop's iterator. -/
namespace ZZ
open PySem PySem.Spec PyProof.Rows L2
open PySem.Sem (wp)
/-- a walker over a sequence: what it is that it stands at a place, and what its next step gives -/
structure Wk (It : Heap → Addr → Addr → Nat → Prop) (Sq : Heap → Addr → Array Value → Prop) : Prop where
  itAt : ∀ {h h' : Heap} {i l k}, It h i l k → (∀ o, h.get? i = some o → h'.get? i = some o) → It h' i l k
  sqAt : ∀ {h h' : Heap} {l xs}, Sq h l xs → (∀ o, h.get? l = some o → h'.get? l = some o) → Sq h' l xs
  there : ∀ {h : Heap} {i l k}, It h i l k → ∃ o, h.get? i = some o
  item : ∀ {prog : Program} {w : World} {A : Around} {E : Value → Shared → Prop} {s : Shared} {i l : Addr} {k : Nat} {xs : Array Value} {x : Value} {Q : Value → Shared → Prop}, It s.heap i l k → Sq s.heap l xs → xs[k]? = some x →
    (∀ h', It h' i l (k + 1) → Heap.SameBut i s.heap h' → Q x { s with heap := h' }) → wpAny (model prog w) A (Builtin.SmallTypes.nextOf (.ref i)) Q E s
  stop : ∀ {prog : Program} {w : World} {A : Around} {E : Value → Shared → Prop} {s : Shared} {i l : Addr} {k : Nat} {xs : Array Value} {Q : Value → Shared → Prop}, A.handled = none → It s.heap i l k → Sq s.heap l xs → xs[k]? = none →
    (∀ h' e, Heap.ExtBut i s.heap h' → (∃ o, h'.get? e = some o ∧ o.cls = .type "StopIteration") → E (.ref e) { s with heap := h' }) → wpAny (model prog w) A (Builtin.SmallTypes.nextOf (.ref i)) Q E s
theorem wkL : Wk Heap.IsListIter Heap.IsList := ⟨fun a b => a.at b, fun a b => a.at b, fun a => let ⟨o, ho, _⟩ := a; ⟨o, ho⟩, fun a b c d => wpAny_nextOf_list_item a b c d, fun a b c d e => wpAny_nextOf_list_end a b c d e⟩
theorem wkT : Wk Heap.IsTupleIter Heap.IsTuple := ⟨fun a b => a.at b, fun a b => a.at b, fun a => let ⟨o, ho, _⟩ := a; ⟨o, ho⟩, fun a b c d => RZ.nextOf_tuple_item a b c d, fun a b c d e => RZ.nextOf_tuple_end a b c d e⟩
section
variable {It1 It2 : Heap → Addr → Addr → Nat → Prop} {Sq1 Sq2 : Heap → Addr → Array Value → Prop}
variable {prog : Program} {w : World} {A : Around} {E : Value → Shared → Prop} {s : Shared}
theorem next_item (W1 : Wk It1 Sq1) (W2 : Wk It2 Sq2) {z TI TO i1 i2 l1 l2 : Addr} {k1 k2 : Nat} {xs ys : Array Value} {x y a b : Value} {Q : Value → Shared → Prop} (D : ZipApart z TI TO i1 i2 l1 l2)
    (hz : IsZip s.heap z TI TO .none) (hTI : IsPair s.heap TI (.ref i1) (.ref i2)) (hTO : IsPair s.heap TO a b)
    (h1 : It1 s.heap i1 l1 k1) (h2 : It2 s.heap i2 l2 k2) (hl1 : Sq1 s.heap l1 xs) (hl2 : Sq2 s.heap l2 ys) (hx : xs[k1]? = some x) (hy : ys[k2]? = some y)
    (hQ : ∀ h', IsZip h' z TI TO (rawInt s.heap.objs.size) → IsPair h' TO x y → It1 h' i1 l1 (k1 + 1) → It2 h' i2 l2 (k2 + 1) → IsPair h' s.heap.objs.size x y → h'.objs.size = s.heap.objs.size + 1 →
      (∀ c o, c ≠ z → c ≠ TO → c ≠ i1 → c ≠ i2 → s.heap.get? c = some o → h'.get? c = some o) → Q (.ref s.heap.objs.size) { s with heap := h' }) :
    wpAny (model prog w) A (Builtin.«zip.__next__» ⟨[.ref z], []⟩) (fun fin s' => ∃ v, fin = .done (.ret v) ∧ Q v s') E s := by
  show wpAny _ _ (field (.ref z) 2 >>= _) _ _ _
  refine wpAny_bind (wpAny_field hz rfl (x := .bool false) rfl ?_)
  show wpAny _ _ (field (.ref z) 3 >>= _) _ _ _
  refine wpAny_bind (wpAny_field hz rfl (x := .ref TI) rfl (wpAny_bind (wpAny_seqItems hTI rfl ?_)))
  show wpAny _ _ (Builtin.SmallTypes.ownedTupleIsFree (.ref z) >>= _) _ _ _
  refine wpAny_bind ?_
  unfold Builtin.SmallTypes.ownedTupleIsFree
  refine wpAny_bind (wpAny_field hz rfl (x := .none) rfl (wpAny_pure ?_))
  simp only [if_true]
  refine wpAny_bind (wpAny_rule (wpAny_bind (wpAny_field hz rfl (x := .ref TO) rfl (wpAny_bind (wpAny_setField_rec hz (by simp) fun g1 z1 b1 => ?_)))))
  replace z1 : IsZip g1 z TI TO .ellipsis := z1
  refine wpAny_bind ?_
  simp only [List.zipIdx_cons, List.zipIdx_nil, List.forIn_cons, List.forIn_nil]
  refine wpAny_bind (wpAny_bind (wpAny_onRaise ?_))
  show wpAny _ _ (Builtin.SmallTypes.nextOf (.ref i1) >>= _) _ _ _
  have c1 : ∀ {c : Addr}, c ≠ z → ∀ o, s.heap.get? c = some o → g1.get? c = some o := fun h o q => (b1.2 _ h).trans q
  refine wpAny_bind (W1.item (W1.itAt h1 (c1 D.i1z)) (W1.sqAt hl1 (c1 D.l1z)) hx fun g2 t2 b2 => wpAny_pure ?_)
  have c2 : ∀ {c : Addr}, c ≠ i1 → ∀ o, g1.get? c = some o → g2.get? c = some o := fun h o q => (b2.2 _ h).trans q
  have p2 : IsPair g2 TO a b := c2 D.TOi1 _ (c1 D.TOz _ hTO)
  refine wpAny_bind (wpAny_seqItems p2 rfl (wpAny_bind (wpAny_updateSeq_pair p2 fun g3 p3 b3 => ?_)))
  replace p3 : IsPair g3 TO x b := p3
  have c3 : ∀ {c : Addr}, c ≠ TO → ∀ o, g2.get? c = some o → g3.get? c = some o := fun h o q => (b3.2 _ h).trans q
  refine wpAny_bind (wpAny_letGo (wpAny_pure (wpAny_bind (wpAny_bind (wpAny_onRaise ?_)))))
  show wpAny _ _ (Builtin.SmallTypes.nextOf (.ref i2) >>= _) _ _ _
  have d13 : ∀ {c : Addr}, c ≠ z → c ≠ i1 → c ≠ TO → ∀ o, s.heap.get? c = some o → g3.get? c = some o := fun u v t o q => c3 t _ (c2 v _ (c1 u _ q))
  refine wpAny_bind (W2.item (W2.itAt h2 (d13 D.i2z D.i12.symm D.TOi2.symm)) (W2.sqAt hl2 (d13 D.l2z D.l2i1 D.l2TO)) hy fun g4 t4 b4 => wpAny_pure ?_)
  have c4 : ∀ {c : Addr}, c ≠ i2 → ∀ o, g3.get? c = some o → g4.get? c = some o := fun h o q => (b4.2 _ h).trans q
  have p4 : IsPair g4 TO x b := c4 D.TOi2 _ p3
  refine wpAny_bind (wpAny_seqItems p4 rfl (wpAny_bind (wpAny_updateSeq_pair p4 fun g5 p5 b5 => ?_)))
  replace p5 : IsPair g5 TO x y := p5
  have c5 : ∀ {c : Addr}, c ≠ TO → ∀ o, g4.get? c = some o → g5.get? c = some o := fun h o q => (b5.2 _ h).trans q
  refine wpAny_bind (wpAny_letGo (wpAny_pure (wpAny_pure (wpAny_bind (wpAny_seqItems p5 rfl (wpAny_bind (wpAny_newTuple ?_)))))))
  have sz : g5.objs.size = s.heap.objs.size := by rw [b5.1, b4.1, b3.1, b2.1, b1.1]
  have z5 : IsZip g5 z TI TO .ellipsis := c5 D.TOz.symm _ (c4 D.i2z.symm _ (c3 D.TOz.symm _ (c2 D.i1z.symm _ z1)))
  have e1 : It1 g5 i1 l1 (k1 + 1) := W1.itAt t2 fun o q => c5 D.TOi1.symm _ (c4 D.i12 _ (c3 D.TOi1.symm _ q))
  have e2 : It2 g5 i2 l2 (k2 + 1) := W2.itAt t4 fun o q => c5 D.TOi2.symm _ q
  show wpAny _ _ (Builtin.SmallTypes.ownedTupleHandOut (.ref z) (.ref g5.objs.size) >>= _) _ _ _
  refine wpAny_bind ?_
  unfold Builtin.SmallTypes.ownedTupleHandOut
  have z6 : IsZip (g5.push { cls := .type "tuple", data := .seq #[x, y] }) z TI TO .ellipsis := Heap.get?_push_of_some _ z5
  refine wpAny_bind (wpAny_setField_rec z6 (by simp) fun g7 z7 b7 => ?_)
  replace z7 : IsZip g7 z TI TO (rawInt g5.objs.size) := z7
  refine wpAny_setField_rec z7 (by simp) fun g8 z8 b8 => ?_
  replace z8 : IsZip g8 z TI TO (rawInt g5.objs.size) := z8
  have up : ∀ {c : Addr}, c ≠ z → ∀ o, g5.get? c = some o → g8.get? c = some o := fun h o q => (b8.2 _ h).trans ((b7.2 _ h).trans (Heap.get?_push_of_some _ q))
  have nz : g5.objs.size ≠ z := Nat.ne_of_gt (Heap.lt_size z5)
  have p8 : IsPair g8 g5.objs.size x y := (b8.2 _ nz).trans ((b7.2 _ nz).trans (Heap.get?_push_size _ rfl))
  have s8 : g8.objs.size = g5.objs.size + 1 := by rw [b8.1, b7.1, Heap.size_push]
  rw [sz] at z8 p8 s8
  refine wpAny_pure ⟨_, rfl, ?_⟩
  show Q (.ref g5.objs.size) _
  rw [sz]
  exact hQ g8 z8 (up D.TOz _ p5) (W1.itAt e1 (up D.i1z)) (W2.itAt e2 (up D.i2z)) p8 s8 fun c o n1 n2 n3 n4 q => up n1 _ (c5 n2 _ (c4 n4 _ (c3 n2 _ (c2 n3 _ (c1 n1 _ q)))))
theorem next_stop (W1 : Wk It1 Sq1) (W2 : Wk It2 Sq2) {z TI TO i1 i2 l1 l2 : Addr} {k1 k2 : Nat} {xs ys : Array Value} {a b : Value} {Q : Fin → Shared → Prop} (hh : A.handled = none) (D : ZipApart z TI TO i1 i2 l1 l2)
    (hz : IsZip s.heap z TI TO .none) (hTI : IsPair s.heap TI (.ref i1) (.ref i2)) (hTO : IsPair s.heap TO a b)
    (h1 : It1 s.heap i1 l1 k1) (h2 : It2 s.heap i2 l2 k2) (hl1 : Sq1 s.heap l1 xs) (hl2 : Sq2 s.heap l2 ys) (hend : xs[k1]? = none ∨ ys[k2]? = none)
    (hE : ∀ h' e, (∀ c o, c ≠ z → c ≠ TO → c ≠ i1 → c ≠ i2 → s.heap.get? c = some o → h'.get? c = some o) → (∃ o, h'.get? e = some o ∧ o.cls = .type "StopIteration") → E (.ref e) { s with heap := h' }) :
    wpAny (model prog w) A (Builtin.«zip.__next__» ⟨[.ref z], []⟩) Q E s := by
  show wpAny _ _ (field (.ref z) 2 >>= _) _ _ _
  refine wpAny_bind (wpAny_field hz rfl (x := .bool false) rfl ?_)
  show wpAny _ _ (field (.ref z) 3 >>= _) _ _ _
  refine wpAny_bind (wpAny_field hz rfl (x := .ref TI) rfl (wpAny_bind (wpAny_seqItems hTI rfl ?_)))
  show wpAny _ _ (Builtin.SmallTypes.ownedTupleIsFree (.ref z) >>= _) _ _ _
  refine wpAny_bind ?_
  unfold Builtin.SmallTypes.ownedTupleIsFree
  refine wpAny_bind (wpAny_field hz rfl (x := .none) rfl (wpAny_pure ?_))
  simp only [if_true]
  refine wpAny_bind (wpAny_rule (wpAny_bind (wpAny_field hz rfl (x := .ref TO) rfl (wpAny_bind (wpAny_setField_rec hz (by simp) fun g1 z1 b1 => ?_)))))
  replace z1 : IsZip g1 z TI TO .ellipsis := z1
  refine wpAny_bind ?_
  simp only [List.zipIdx_cons, List.zipIdx_nil, List.forIn_cons, List.forIn_nil]
  refine wpAny_bind (wpAny_bind (wpAny_onRaise ?_))
  show wpAny _ _ (Builtin.SmallTypes.nextOf (.ref i1) >>= _) _ _ _
  have c1 : ∀ {c : Addr}, c ≠ z → ∀ o, s.heap.get? c = some o → g1.get? c = some o := fun h o q => (b1.2 _ h).trans q
  have out : ∀ {g : Heap} {e : Addr}, IsZip g z TI TO .ellipsis → (∃ o, g.get? e = some o ∧ o.cls = .type "StopIteration") → e ≠ z := fun zz ⟨o, ho, hc⟩ q => by
    subst q; rw [zz] at ho; cases ho; simp at hc
  cases hx : xs[k1]? with
  | none =>
    refine wpAny_bind (W1.stop hh (W1.itAt h1 (c1 D.i1z)) (W1.sqAt hl1 (c1 D.l1z)) hx fun g2 e b2 he => ?_)
    have z2 : IsZip g2 z TI TO .ellipsis := b2 _ _ D.i1z.symm z1
    have ne := out z2 he
    obtain ⟨oe, ho, hc⟩ := he
    exact wpAny_setField_rec z2 (by simp) fun g3 _ b3 => hE g3 e (fun c o n1 _ n3 _ q => (b3.2 _ n1).trans (b2 _ _ n3 (c1 n1 _ q))) ⟨oe, (b3.2 _ ne).trans ho, hc⟩
  | some x =>
    have hy : ys[k2]? = none := by
      rcases hend with h | h
      · rw [hx] at h; cases h
      · exact h
    refine wpAny_bind (W1.item (W1.itAt h1 (c1 D.i1z)) (W1.sqAt hl1 (c1 D.l1z)) hx fun g2 t2 b2 => wpAny_pure ?_)
    have c2 : ∀ {c : Addr}, c ≠ i1 → ∀ o, g1.get? c = some o → g2.get? c = some o := fun h o q => (b2.2 _ h).trans q
    have p2 : IsPair g2 TO a b := c2 D.TOi1 _ (c1 D.TOz _ hTO)
    refine wpAny_bind (wpAny_seqItems p2 rfl (wpAny_bind (wpAny_updateSeq_pair p2 fun g3 p3 b3 => ?_)))
    have c3 : ∀ {c : Addr}, c ≠ TO → ∀ o, g2.get? c = some o → g3.get? c = some o := fun h o q => (b3.2 _ h).trans q
    refine wpAny_bind (wpAny_letGo (wpAny_pure (wpAny_bind (wpAny_bind (wpAny_onRaise ?_)))))
    show wpAny _ _ (Builtin.SmallTypes.nextOf (.ref i2) >>= _) _ _ _
    have d13 : ∀ {c : Addr}, c ≠ z → c ≠ i1 → c ≠ TO → ∀ o, s.heap.get? c = some o → g3.get? c = some o := fun u v t o q => c3 t _ (c2 v _ (c1 u _ q))
    refine wpAny_bind (W2.stop hh (W2.itAt h2 (d13 D.i2z D.i12.symm D.TOi2.symm)) (W2.sqAt hl2 (d13 D.l2z D.l2i1 D.l2TO)) hy fun g4 e b4 he => ?_)
    have z4 : IsZip g4 z TI TO .ellipsis := b4 _ _ D.i2z.symm (c3 D.TOz.symm _ (c2 D.i1z.symm _ z1))
    have ne := out z4 he
    obtain ⟨oe, ho, hc⟩ := he
    exact wpAny_setField_rec z4 (by simp) fun g5 _ b5 => hE g5 e (fun c o n1 n2 n3 n4 q => (b5.2 _ n1).trans (b4 _ _ n4 (d13 n1 n3 n2 _ q))) ⟨oe, (b5.2 _ ne).trans ho, hc⟩
theorem pyNext_item (W1 : Wk It1 Sq1) (W2 : Wk It2 Sq2) {z TI TO i1 i2 l1 l2 : Addr} {k1 k2 : Nat} {xs ys : Array Value} {x y a b : Value} {Q : Option Value → Shared → Prop} (D : ZipApart z TI TO i1 i2 l1 l2)
    (hz : IsZip s.heap z TI TO .none) (hTI : IsPair s.heap TI (.ref i1) (.ref i2)) (hTO : IsPair s.heap TO a b)
    (h1 : It1 s.heap i1 l1 k1) (h2 : It2 s.heap i2 l2 k2) (hl1 : Sq1 s.heap l1 xs) (hl2 : Sq2 s.heap l2 ys) (hx : xs[k1]? = some x) (hy : ys[k2]? = some y)
    (hQ : ∀ h', IsZip h' z TI TO (rawInt s.heap.objs.size) → IsPair h' TO x y → It1 h' i1 l1 (k1 + 1) → It2 h' i2 l2 (k2 + 1) → IsPair h' s.heap.objs.size x y → h'.objs.size = s.heap.objs.size + 1 →
      (∀ c o, c ≠ z → c ≠ TO → c ≠ i1 → c ≠ i2 → s.heap.get? c = some o → h'.get? c = some o) → Q (some (.ref s.heap.objs.size)) { s with heap := h' }) :
    wpAny (model prog w) A (pyNext (.ref z)) Q E s := by
  have hT : s.TypeIs (.ref z) "zip" := ⟨_, hz, rfl⟩
  unfold pyNext
  refine wpAny_bind (wpAny_attempt (wpAny_callSpecial?_slot (name := Str.ofString "__next__") hT F.slot_zip_next (wpAny_call_entry F.slot_zip_next hT F.entry_zip_next ?_ (F.args_zip_next_1 _))))
  exact next_item W1 W2 D hz hTI hTO h1 h2 hl1 hl2 hx hy fun h' a1 a2 a3 a4 a5 a6 a7 => wpAny_pure (hQ h' a1 a2 a3 a4 a5 a6 a7)
theorem pyNext_stop (W1 : Wk It1 Sq1) (W2 : Wk It2 Sq2) {z TI TO i1 i2 l1 l2 : Addr} {k1 k2 : Nat} {xs ys : Array Value} {a b : Value} {Q : Option Value → Shared → Prop} (hh : A.handled = none) (D : ZipApart z TI TO i1 i2 l1 l2)
    (hz : IsZip s.heap z TI TO .none) (hTI : IsPair s.heap TI (.ref i1) (.ref i2)) (hTO : IsPair s.heap TO a b)
    (h1 : It1 s.heap i1 l1 k1) (h2 : It2 s.heap i2 l2 k2) (hl1 : Sq1 s.heap l1 xs) (hl2 : Sq2 s.heap l2 ys) (hend : xs[k1]? = none ∨ ys[k2]? = none)
    (hQ : ∀ h', (∀ c o, c ≠ z → c ≠ TO → c ≠ i1 → c ≠ i2 → s.heap.get? c = some o → h'.get? c = some o) → Q none { s with heap := h' }) : wpAny (model prog w) A (pyNext (.ref z)) Q E s := by
  have hT : s.TypeIs (.ref z) "zip" := ⟨_, hz, rfl⟩
  unfold pyNext
  refine wpAny_bind (wpAny_attempt (wpAny_callSpecial?_slot (name := Str.ofString "__next__") hT F.slot_zip_next
    (wpAny_call_entry F.slot_zip_next hT F.entry_zip_next (next_stop W1 W2 hh D hz hTI hTO h1 h2 hl1 hl2 hend fun h' e hk he => ?_) (F.args_zip_next_1 _))))
  obtain ⟨o, ho, hc⟩ := he
  exact wpAny_bind (wpAny_isInstance (T := "StopIteration") (b := true) ⟨o, ho, hc⟩ isSubtype_stop (wpAny_pure (hQ _ hk)))
end
/-! the call zip(list, tuple) -/
abbrev m1 (h : Heap) (l1 : Addr) : Heap := h.push { cls := .type "list_iterator", data := .fields #[.ref l1, .int 0 0] }
abbrev m2 (h : Heap) (l1 l2 : Addr) : Heap := (m1 h l1).push { cls := .type "tuple_iterator", data := .fields #[.ref l2, .int 0 0] }
abbrev m3 (h : Heap) (l1 l2 : Addr) : Heap := (m2 h l1 l2).push { cls := .type "tuple", data := .seq #[.ref h.objs.size, .ref (m1 h l1).objs.size] }
abbrev m4 (h : Heap) (l1 l2 : Addr) : Heap := (m3 h l1 l2).push { cls := .type "tuple", data := .seq #[.none, .none] }
abbrev m5 (h : Heap) (l1 l2 : Addr) : Heap := (m4 h l1 l2).push { cls := .type "zip", data := .fields #[.none, .bool false, .bool false, .ref (m2 h l1 l2).objs.size, .ref (m3 h l1 l2).objs.size] }
theorem meets_new (l1 l2 : Addr) (xs ys : Array Value) :
    Meets (Builtin.«zip.__new__» ⟨[.type "zip", .ref l1, .ref l2], []⟩) (fun _ R s => s.heap.IsList l1 xs ∧ s.heap.IsTuple l2 ys ∧
      R (.ok (.ret (.ref (m4 s.heap l1 l2).objs.size))) { s with heap := m5 s.heap l1 l2 }) :=
  .of_wp fun prog w A R s h => by
    obtain ⟨hp, g, d, tk, os⟩ := s; obtain ⟨hl1, hl2, h⟩ := h
    have hsub := sub_zip
    have hL1 : Heap.IsList (Shared.heap ⟨hp, g, d, tk, os⟩) l1 xs := hl1
    have hL2 : Heap.IsTuple (Shared.heap ⟨hp.push { cls := .type "list_iterator", data := .fields #[.ref l1, .int 0 0] }, g, d, tk, os⟩) l2 ys := Heap.IsTuple.push hl2 _
    wp_walk using wpAny_pyIter_list hL1, wpAny_pyIter_tuple hL2
    exact ⟨_, rfl, h⟩
theorem call_zipM {prog : Program} {w : World} {A : Around} {E : Value → Shared → Prop} {s : Shared} {l1 l2 : Addr} {xs ys : Array Value} {Q : Value → Shared → Prop} (hl1 : s.heap.IsList l1 xs) (hl2 : s.heap.IsTuple l2 ys)
    (h : ∀ h', IsZip h' (s.heap.objs.size + 4) (s.heap.objs.size + 2) (s.heap.objs.size + 3) .none → IsPair h' (s.heap.objs.size + 2) (.ref s.heap.objs.size) (.ref (s.heap.objs.size + 1)) →
      IsPair h' (s.heap.objs.size + 3) .none .none → h'.IsListIter s.heap.objs.size l1 0 → h'.IsTupleIter (s.heap.objs.size + 1) l2 0 →
      (∀ c o, s.heap.get? c = some o → h'.get? c = some o) → Q (.ref (s.heap.objs.size + 4)) { s with heap := h' }) :
    wpAny (model prog w) A (call (.type "zip") [.ref l1, .ref l2]) Q E s := by
  refine callType_new F.called_zip (by decide) (F.typeCall_zip_2 _ _) (F.newCall_zip_2 _ _) (fun obj => F.args_object_init_3 obj _ _) F.entry_zip_new (meets_new l1 l2 xs ys) ⟨hl1, hl2, ?_⟩
  have up : ∀ {g : Heap} {c : Addr} {ob o : Obj}, g.get? c = some o → (g.push ob).get? c = some o := fun q => Heap.get?_push_of_some _ q
  have e1 : (m1 s.heap l1).objs.size = s.heap.objs.size + 1 := Heap.size_push ..
  have e2 : (m2 s.heap l1 l2).objs.size = s.heap.objs.size + 2 := by rw [Heap.size_push, e1]
  have e3 : (m3 s.heap l1 l2).objs.size = s.heap.objs.size + 3 := by rw [Heap.size_push, e2]
  have e4 : (m4 s.heap l1 l2).objs.size = s.heap.objs.size + 4 := by rw [Heap.size_push, e3]
  have g5 : (m5 s.heap l1 l2).get? (m4 s.heap l1 l2).objs.size = some _ := Heap.get?_push_size _ rfl
  have g4 : (m5 s.heap l1 l2).get? (m3 s.heap l1 l2).objs.size = some _ := up (Heap.get?_push_size _ rfl)
  have g3 : (m5 s.heap l1 l2).get? (m2 s.heap l1 l2).objs.size = some _ := up (up (Heap.get?_push_size _ rfl))
  have g2 : (m5 s.heap l1 l2).get? (m1 s.heap l1).objs.size = some _ := up (up (up (Heap.get?_push_size _ rfl)))
  have g1 : (m5 s.heap l1 l2).get? s.heap.objs.size = some _ := up (up (up (up (Heap.get?_push_size _ rfl))))
  rw [e2, e3, e4] at g5
  rw [e1, e2] at g3
  rw [e3] at g4
  rw [e1] at g2
  rw [e4]
  exact ⟨⟨_, g5, rfl⟩, h _ g5 g3 g4 ⟨_, g1, rfl, rfl⟩ ⟨_, g2, rfl, rfl⟩ fun c o x => up (up (up (up (up x))))⟩
/-- the list at a and the tuple at b as they stand at each turn, the items in new pairs -/
def ItzM (K : PySem.W.Frag) (a b : Addr) : It :=
  ⟨fun i H => ∃ (xs ys : List V) (x y : V), SqL K H a xs ∧ SqT K H b ys ∧ xs[i]? = some x ∧ ys[i]? = some y,
    fun i H v H' => ∃ T x y, v = .ref T ∧ H T = none ∧ H' = upd H T (.tup [x, y]) ∧ (∀ xs, SqL K H a xs → xs[i]? = some x) ∧ ∀ ys, SqT K H b ys → ys[i]? = some y,
    fun i H => ∃ xs ys : List V, SqL K H a xs ∧ SqT K H b ys ∧ (xs.length ≤ i ∨ ys.length ≤ i)⟩
theorem turn_zipM {P : Program} {w : World} {K : PySem.W.Frag} {elts : List Expr} {kk : Nat} {tpos : Pos} {a b z TI TO i1 i2 : Addr} (D : ZipApart z TI TO i1 i2 a b) :
    Turn P w K (.Tuple elts kk tpos) (ItzM K a b) [z, TI, TO, i1, i2] z (fun i h => IsZip h z TI TO .none ∧ IsPair h TI (.ref i1) (.ref i2) ∧ (∃ x y, IsPair h TO x y) ∧ h.IsListIter i1 a i ∧ h.IsTupleIter i2 b i) where
  mem := by simp
  obj := fun i h st c hc => by
    obtain ⟨hz, hTI, ⟨x, y, hTO⟩, ⟨o1, e1, _, d1⟩, ⟨o2, e2, _, d2⟩⟩ := st
    simp only [List.mem_cons, List.not_mem_nil, or_false] at hc
    rcases hc with rfl | rfl | rfl | rfl | rfl
    · exact ⟨_, hz, fun v q => nomatch q⟩
    · exact ⟨_, hTI, fun v q => nomatch q⟩
    · exact ⟨_, hTO, fun v q => nomatch q⟩
    · exact ⟨o1, e1, fun v q => by rw [d1] at q; cases q⟩
    · exact ⟨o2, e2, fun v q => by rw [d2] at q; cases q⟩
  keep := fun i h h' st k => by
    obtain ⟨hz, hTI, ⟨x, y, hTO⟩, h1, h2⟩ := st
    exact ⟨k z (by simp) _ hz, k TI (by simp) _ hTI, ⟨x, y, k TO (by simp) _ hTO⟩, h1.at fun o q => k i1 (by simp) o q, h2.at fun o q => k i2 (by simp) o q⟩
  item := by
    intro X hP hw hK hc i pins s σ H E I hf st hg
    subst hP hw hK
    obtain ⟨hz, hTI, ⟨x0, y0, hTO⟩, h1, h2⟩ := st
    obtain ⟨xs, ys, x, y, hqx, hqy, hx, hy⟩ := hg
    obtain ⟨its, rv, p, _⟩ := I.list hqx
    obtain ⟨its2, rv2, p2, _⟩ := I.tuple hqy
    obtain ⟨u, hu, ru⟩ := rv.get hx
    obtain ⟨u2, hu2, ru2⟩ := rv2.get hy
    have lz : z < s.heap.objs.size := Heap.lt_size hz
    refine pyNext_item wkL wkT D hz hTI hTO h1 h2 p.isList p2 (x := u) (y := u2) (by simpa using hu) (by simpa using hu2) fun g zg og t1 t2 pT _ hk => ?_
    refine ⟨_, rfl, wpAny_letOwnedTupleGo_zip (s := { s with heap := g }) zg fun g' zg' sb => ?_⟩
    have q : ∀ {c : Addr}, c ≠ z → ∀ o, g.get? c = some o → g'.get? c = some o := fun n o e => (sb.2 _ n).trans e
    have pT' : IsPair g' s.heap.objs.size u u2 := q (Nat.ne_of_gt lz) _ pT
    have I1 : Inv X pins σ (upd H s.heap.objs.size (.tup [x, y])) { s with heap := g' } :=
      I.turnedNew (t' := s.toks) (ch := [z, TI, TO, i1, i2]) (fun c o hb e => q (fun n => hb (by simp [n])) _ (hk c o (fun n => hb (by simp [n])) (fun n => hb (by simp [n])) (fun n => hb (by simp [n])) (fun n => hb (by simp [n])) e)) hf (Nat.le_refl _)
        ⟨by show 2 ≤ sizeLine; decide, [u, u2], .cons ru (.cons ru2 .nil), ⟨_, pT', rfl, _, rfl⟩⟩
    refine ⟨.ref s.heap.objs.size, _, I1, rfl, ⟨_, x, y, rfl, I.hok.fresh (Nat.le_refl _), rfl, fun l hl => by rw [I.list_inj hl hqx]; exact hx, fun l hl => by rw [I.tuple_inj hl hqy]; exact hy⟩,
      ⟨zg', q D.TIz _ (hk _ _ D.TIz D.TITO D.TIi1 D.TIi2 hTI), ⟨u, u2, q D.TOz _ og⟩, t1.at (q D.i1z), t2.at (q D.i2z)⟩, fun c hcm => ?_⟩
    have hlt : c < s.heap.objs.size := by
      simp only [List.mem_cons, List.not_mem_nil, or_false] at hcm
      rcases hcm with rfl | rfl | rfl | rfl | rfl
      · exact lz
      · exact Heap.lt_size hTI
      · exact Heap.lt_size hTO
      · obtain ⟨_, e1, _⟩ := h1; exact Heap.lt_size e1
      · obtain ⟨_, e2, _⟩ := h2; exact Heap.lt_size e2
    rw [upd_ne (Nat.ne_of_lt hlt)]
    exact (hf c hcm).1
  done := by
    intro X hP hw hK hc i pins s σ H E I hf st hg
    subst hP hw hK
    obtain ⟨hz, hTI, ⟨x0, y0, hTO⟩, h1, h2⟩ := st
    obtain ⟨xs, ys, hqx, hqy, hend⟩ := hg
    obtain ⟨its, rv, p, _⟩ := I.list hqx
    obtain ⟨its2, rv2, p2, _⟩ := I.tuple hqy
    have l1 := rv.length
    have l2 := rv2.length
    have he : its.toArray[i]? = none ∨ its2.toArray[i]? = none := by
      rcases hend with q | q
      · exact .inl (by simp; omega)
      · exact .inr (by simp; omega)
    exact pyNext_stop wkL wkT (I.ok.hd hc) D hz hTI hTO h1 h2 p.isList p2 he fun h' hk => ⟨rfl, I.turnedL (t' := s.toks) (ch := [z, TI, TO, i1, i2]) (fun c o hb q =>
      hk c o (fun n => hb (by simp [n])) (fun n => hb (by simp [n])) (fun n => hb (by simp [n])) (fun n => hb (by simp [n])) q) hf⟩
  self := fun A i s Q E st h => wpAny_pyIter_zip st.1 h
/-- zip of two lists, two tuples, a list and a tuple -/
def iZipB (K : PySem.W.Frag) (ta : TA) : TI := fun σ H R => ta σ H fun vs H1 => ∃ a b xs ys, vs = [.ref a, .ref b] ∧ ((SqL K H1 a xs ∧ SqL K H1 b ys ∧ R (Itz K a b) H1) ∨ (SqT K H1 a xs ∧ SqT K H1 b ys ∧ R (RZ.ItzT K a b) H1) ∨ (SqL K H1 a xs ∧ SqT K H1 b ys ∧ R (ItzM K a b) H1))
theorem pi_zipB {X : Cx} {e e2 : Expr} {ta : TA} {p pos tpos : Pos} {elts : List Expr} {kk : Nat} (hg : Gl X "zip") (hm : X.mg "zip" = none) (ha : PA X [e, e2] ta)
    (hs : starEach [e, e2] X.env = (false, eval e X.env) :: starEach [e2] X.env := by rfl) (hpl : (backTo pos (starEach [e2] X.env)).any (·.1) = false := by rfl) :
    PI X (.Tuple elts kk tpos) (.Call (.Name "zip" p) [e, e2] [] pos) (iZipB X.K ta) := by
  refine ⟨fun pins s σ H R I h => Call_ (ld_blt I hg hm PyProof.Rows.boot_zip (PyProof.Rows.callWith_type1 (thn (ha.run pos pins s σ H _ I h) fun us s1 ⟨vs, H1, I1, r1, a, b, xs, ys, ex, q1⟩ => ?_) hs hpl))⟩
  subst ex
  obtain ⟨n, hn⟩ : ∃ n, n = s1.heap.objs.size := ⟨_, rfl⟩
  have fresh : ∀ c, c ∈ [s1.heap.objs.size + 4, s1.heap.objs.size + 2, s1.heap.objs.size + 3, s1.heap.objs.size, s1.heap.objs.size + 1] → FpOk X pins H1 c := fun c hcm => by
    have hle : s1.heap.objs.size ≤ c := by
      simp only [List.mem_cons, List.not_mem_nil, or_false] at hcm
      rcases hcm with rfl | rfl | rfl | rfl | rfl <;> first | exact Nat.le_add_right _ _ | exact Nat.le_refl _
    exact I1.fpOk hle (I1.hok.fresh hle)
  cases r1 with
  | cons r rr => cases rr with
    | cons r' rr =>
      cases rr; cases r; cases r'
      rcases q1 with ⟨hqx, hqy, q⟩ | ⟨hqx, hqy, q⟩ | ⟨hqx, hqy, q⟩
      · obtain ⟨its, rv, p1, _⟩ := I1.list hqx
        obtain ⟨its2, rv2, p2, _⟩ := I1.list hqy
        exact call_zip_2 p1.isList p2.isList fun h' hz hTI hTO h1 h2 _ hk => wpAny_pyIter_zip hz
          ⟨_, _, _, _, H1, rfl, I1.kept (t' := s1.toks) hk, turn_zip (PySem.W.ktu_apart s1.heap.objs.size a b p1.lt p2.lt), ⟨hz, hTI, ⟨_, _, hTO⟩, h1, h2⟩, fresh, q⟩
      · obtain ⟨its, rv, p1, _⟩ := I1.tuple hqx
        obtain ⟨its2, rv2, p2, _⟩ := I1.tuple hqy
        obtain ⟨o1, ho1, _⟩ := id p1
        obtain ⟨o2, ho2, _⟩ := id p2
        exact RZ.call_zipT (show s1.heap.IsTuple a its.toArray from p1) (show s1.heap.IsTuple b its2.toArray from p2) fun h' hz hTI hTO h1 h2 _ hk => wpAny_pyIter_zip hz
          ⟨_, _, _, _, H1, rfl, I1.kept (t' := s1.toks) hk, RZ.turn_zipT (PySem.W.ktu_apart s1.heap.objs.size a b (Heap.lt_size ho1) (Heap.lt_size ho2)), ⟨hz, hTI, ⟨_, _, hTO⟩, h1, h2⟩, fresh, q⟩
      · obtain ⟨its, rv, p1, _⟩ := I1.list hqx
        obtain ⟨its2, rv2, p2, _⟩ := I1.tuple hqy
        obtain ⟨o2, ho2, _⟩ := id p2
        exact call_zipM p1.isList (show s1.heap.IsTuple b its2.toArray from p2) fun h' hz hTI hTO h1 h2 hk => wpAny_pyIter_zip hz
          ⟨_, _, _, _, H1, rfl, I1.kept (t' := s1.toks) hk, turn_zipM (PySem.W.ktu_apart s1.heap.objs.size a b p1.lt (Heap.lt_size ho2)), ⟨hz, hTI, ⟨_, _, hTO⟩, h1, h2⟩, fresh, q⟩
end ZZ

set_option Elab.async false
set_option linter.all false
set_option maxRecDepth 100000
set_option maxHeartbeats 4000000
/-! Z5: operations on values. -/
namespace Z
open PySem L2 PyProof.Rows

/-- what an operation without effects gives: a value without new parts, or a new list or tuple of frozen parts -/
def Rslt (K : PySem.W.Frag) (F H : Hp) (d : D) (Q : VK) : Prop :=
  (∀ v, Rf K F v d → Q v H) ∧ (∀ zs ws, d = .lst true zs → Rfs K F ws zs → ∀ p, H p = none → Q (.ref p) (upd H p (.lst ws))) ∧
    (∀ zs ws, d = .tup true zs → Rfs K F ws zs → ∀ p, H p = none → Q (.ref p) (upd H p (.tup ws)))
theorem Post.rslt {C : Cz} {p : Bool} {F H F' H' : Hp} {fp f0 fp' : List Addr} {e e' : Env} {σ : L2.St} {Q : VK} {d : D} (post : Post C (RV C.K false) p F H fp e σ (.ok d e') Q)
    (g : Go F H fp F' H' f0) (w : Wd F' H' f0 C.fb) (hs : NS fp' f0) (er : EnvR C.K F' H' C.fb C.s0 σ e' fp') (pu : p = true → Same H H' ∧ e' = e) : Rslt C.K F' H' d Q := by
  have w1 := w.less hs
  have g1 := g.less hs.1
  have new : ∀ (q : Addr) (o : HO), H' q = none → Same H' (upd H' q o) := fun q o hq a u z => by rw [upd_ne (ne_of_none z hq)]; exact z
  refine ⟨fun v r => post.retS g w hs er r pu, fun zs ws hd r q hq => ?_, fun zs ws hd r q hq => ?_⟩
  · subst hd
    refine post (.ref q) F' (upd H' q (.lst ws)) [q] fp' ((g1.trans (Go.new hq)).less fun x hx => hx) (w1.new hq er.dom) (er.mono (.refl _) (fun x hx => ?_) fun x hx => ?_) (.mk (.lst upd_same r.ros)) fun z => ?_
    · exact upd_ne fun e => (w1.lent x hx).2.2 (by rw [e]; exact hq)
    · exact upd_ne fun e => er.dom x hx (by rw [e]; exact hq)
    · obtain ⟨a, b⟩ := pu z
      exact ⟨a.trans (new q _ hq), b⟩
  · subst hd
    refine post (.ref q) F' (upd H' q (.tup ws)) [q] fp' ((g1.trans (Go.new hq)).less fun x hx => hx) (w1.new hq er.dom) (er.mono (.refl _) (fun x hx => ?_) fun x hx => ?_) (.mk (.tup upd_same r.ros)) fun z => ?_
    · exact upd_ne fun e => (w1.lent x hx).2.2 (by rw [e]; exact hq)
    · exact upd_ne fun e => er.dom x hx (by rw [e]; exact hq)
    · obtain ⟨a, b⟩ := pu z
      exact ⟨a.trans (new q _ hq), b⟩

def opB : Bop → Operator
  | .add => .Add
  | .sub => .Sub
  | .mul => .Mult
  | .fdiv => .FloorDiv
  | .mod => .Mod
  | .pow => .Pow
def opC : Cop → CmpOp
  | .eq => .Eq
  | .ne => .NotEq
  | .lt => .Lt
  | .le => .LtE
  | .gt => .Gt
  | .ge => .GtE
  | .isin => .In
  | .notin => .NotIn
  | .isN => .Is
  | .notN => .IsNot
theorem sizeL_eq : sizeL = sizeLine := by rw [sizeLine_eq]; rfl
theorem str_len (s : List Nat) : (⟨s.toArray⟩ : Str).length = s.length := by show s.toArray.size = _; simp
theorem str_app (a b : List Nat) : (⟨a.toArray⟩ : Str) ++ ⟨b.toArray⟩ = ⟨(a ++ b).toArray⟩ := by
  show Str.append _ _ = _
  unfold Str.append
  simp
section
variable {X : Cx}
/-- list + list, wherever they stand -/
def rCat' (K : PySem.W.Frag) : R2 := fun x y H Q => ∃ l b xs zs, x = .ref l ∧ y = .ref b ∧ SqL K H l xs ∧ SqL K H b zs ∧ xs.length + zs.length ≤ sizeLine ∧ ∀ p, H p = none → Q (.ref p) (upd H p (.lst (xs ++ zs)))
theorem op_cat' : OpR X (binaryOp .Add) (rCat' X.K) := by
  intro pins s σ H x y v u Q I rx ry h
  obtain ⟨l, b, xs, zs, rfl, rfl, hH, hB, hz, q⟩ := h
  cases rx
  cases ry
  obtain ⟨its, r, pl, z⟩ := I.list hH
  obtain ⟨its2, r2, pl2, z2⟩ := I.list hB
  have l1 := r.length
  have l2 := r2.length
  obtain ⟨⟨cls, dd, data, sl⟩, ho, hc, n, hd⟩ := pl.isList
  obtain ⟨⟨cls2, dd2, data2, sl2⟩, ho2, hc2, n2, hd2⟩ := pl2.isList
  simp only at hc hd hc2 hd2
  subst hc hd hc2 hd2
  have e : its.toArray ++ its2.toArray = (its ++ its2).toArray := by simp
  refine concat_meets ⟨_, ho, rfl⟩ ⟨_, ho2, rfl⟩ noFill_list_add seq_list_add PySem.F.slot_list_add PySem.F.entry_list_add (PySem.F.args_list_add_2 _ _) (list_addW l b its.toArray its2.toArray n n2 dd dd2 sl sl2 (by simp only [List.size_toArray]; omega)) ⟨ho, ho2, ?_⟩
  rw [e]
  exact ⟨.ref _, _, I.lnew (t' := s.toks) (r.append r2) (by rw [List.length_append]; omega), rfl, q _ I.fresh⟩
theorem op_powW : OpR X (binaryOp .Pow) (rI (fun i n => 0 ≤ n ∧ ((bits i + 1 : Nat) : Int) * n ≤ 1000000) fun i n => .int (i ^ n.toNat)) := opI fun i n _ _ _ _ _ hc q => by
  refine pow_int hc.1 ?_ q
  have hb : Builtin.Int.intBits i ≤ bits i + 1 := by
    unfold Builtin.Int.intBits bits
    first
      | (split <;> omega)
      | simp
  have h1 : (Builtin.Int.intBits i : Int) * n ≤ ((bits i + 1 : Nat) : Int) * n := Int.mul_le_mul_of_nonneg_right (by exact_mod_cast hb) hc.1
  have h2 := hc.2
  have h3 : (1000000 : Int) ≤ 2 ^ 27 := by decide
  omega
theorem _root_.Z.Rfs.rep {K : PySem.W.Frag} {F : Hp} {v : List V} {d : List D} (r : Rfs K F v d) : ∀ n : Nat, Rfs K F (List.replicate n v).flatten (List.replicate n d).flatten
  | 0 => .nil
  | n + 1 => by
    rw [List.replicate_succ, List.replicate_succ, List.flatten_cons, List.flatten_cons]
    exact r.app (Rfs.rep r n)
def rBin (K : PySem.W.Frag) (o : Bop) : R2 := fun x y H Q => ∃ F d1 d2 f1 f2 d3, Same F H ∧ Ro K F H x d1 f1 ∧ Ro K F H y d2 f2 ∧ binop o d1 d2 = some d3 ∧ Rslt K F H d3 Q
theorem op_bin (o : Bop) : OpR X (binaryOp (opB o)) (rBin X.K o) := by
  intro pins s σ H x y v u Q I rx ry h
  obtain ⟨F, d1, d2, f1, f2, d3, sm, r1, r2, hb, rs⟩ := h
  cases o <;> cases d1 <;> cases d2 <;> simp only [binop, Option.some.injEq, reduceCtorEq] at hb
  case add.int.int i j =>
    subst hb
    exact op_add pins s σ H x y v u Q I rx ry ⟨i, j, r1.int_inv, r2.int_inv, rs.1 _ (.int _)⟩
  case add.str.str a b =>
    split at hb
    · rename_i hl
      simp only [Option.some.injEq] at hb; subst hb
      refine op_add_str pins s σ H x y v u Q I rx ry ⟨⟨a.toArray⟩, ⟨b.toArray⟩, r1.str_inv, r2.str_inv, by rw [str_len, str_len, ← sizeL_eq]; exact hl, ?_⟩
      rw [str_app]
      exact rs.1 _ (.str _)
    · cases hb
  case add.lst.lst m xs m2 ys =>
    split at hb
    · rename_i hl
      simp only [Option.some.injEq] at hb; subst hb
      simp only [Bool.and_eq_true, decide_eq_true_eq] at hl
      obtain ⟨a, ws, g, rfl, sq, ro, _⟩ := r1.lst_inv sm
      obtain ⟨b, zs, g2, rfl, sq2, ro2, _⟩ := r2.lst_inv sm
      obtain ⟨rf, _⟩ := ro.frozen hl.1.1
      obtain ⟨rf2, _⟩ := ro2.frozen hl.1.2
      exact op_cat' pins s σ H _ _ v u Q I rx ry ⟨a, b, ws, zs, rfl, rfl, sq, sq2, by rw [rf.len, rf2.len, ← sizeL_eq]; exact hl.2, rs.2.1 _ _ rfl (rf.app rf2)⟩
    · cases hb
  case sub.int.int i j =>
    subst hb
    exact op_sub pins s σ H x y v u Q I rx ry ⟨i, j, r1.int_inv, r2.int_inv, rs.1 _ (.int _)⟩
  case mul.int.int i j =>
    split at hb
    · rename_i hl
      simp only [Option.some.injEq] at hb; subst hb
      exact op_mulW pins s σ H x y v u Q I rx ry ⟨i, j, r1.int_inv, r2.int_inv, hl, rs.1 _ (.int _)⟩
    · cases hb
  case mul.lst.int m xs k =>
    split at hb
    · rename_i hl
      simp only [Option.some.injEq] at hb; subst hb
      simp only [Bool.and_eq_true, decide_eq_true_eq] at hl
      obtain ⟨⟨⟨⟨hm, hf⟩, h1⟩, h2⟩, h3⟩ := hl
      subst hm
      cases r1 with
      | frz r => have := r.fzn; simp [fzn] at this
      | lst hH rs' =>
        obtain ⟨rf, _⟩ := rs'.frozen hf
        exact op_rep pins s σ H _ _ v u Q I rx ry ⟨_, k, _, rfl, r2.int_inv, hH, h1, h2, by rw [rf.len, ← sizeL_eq]; exact h3, rs.2.1 _ _ rfl (rf.rep k.toNat)⟩
    · cases hb
  case mul.str.int a k =>
    split at hb
    · rename_i hl
      simp only [Option.some.injEq] at hb; subst hb
      simp only [Bool.and_eq_true, decide_eq_true_eq] at hl
      obtain ⟨⟨h1, h2⟩, h3⟩ := hl
      exact op_mulS pins s σ H x y v u Q I rx ry ⟨a, k, r1.str_inv, r2.int_inv, h1, h2, h3, rs.1 _ (.str _)⟩
    · cases hb
  case fdiv.int.int i j =>
    split at hb
    · rename_i hl
      simp only [Option.some.injEq] at hb; subst hb
      exact op_fdivW pins s σ H x y v u Q I rx ry ⟨i, j, r1.int_inv, r2.int_inv, hl, rs.1 _ (.int _)⟩
    · cases hb
  case mod.int.int i j =>
    split at hb
    · rename_i hl
      simp only [Option.some.injEq] at hb; subst hb
      exact op_mod pins s σ H x y v u Q I rx ry ⟨i, j, r1.int_inv, r2.int_inv, hl, rs.1 _ (.int _)⟩
    · cases hb
  case pow.int.int i j =>
    split at hb
    · rename_i hl
      simp only [Option.some.injEq] at hb; subst hb
      exact op_powW pins s σ H x y v u Q I rx ry ⟨i, j, r1.int_inv, r2.int_inv, hl, rs.1 _ (.int _)⟩
    · cases hb

/-! ### comparisons -/
mutual
theorem eqv_eqB : ∀ (d e : D) (n m : Nat), flatD d n = true → flatD e m = true → PyData.eqv (toPy d) (toPy e) = eqB d e
  | .non, e, n, m, h, k => by cases e <;> first | (simp only [flatD, Bool.false_eq_true] at k; done) | simp only [toPy, PyData.eqv, eqB]
  | .bl a, e, n, m, h, k => by cases e <;> first | (simp only [flatD, Bool.false_eq_true] at k; done) | simp only [toPy, PyData.eqv, eqB]
  | .int a, e, n, m, h, k => by cases e <;> first | (simp only [flatD, Bool.false_eq_true] at k; done) | simp only [toPy, PyData.eqv, eqB]
  | .str a, e, n, m, h, k => by
    cases e with
    | str b =>
      simp only [toPy, PyData.eqv, eqB]
      by_cases q : a = b
      · subst q; simp
      · have q2 : (⟨a.toArray⟩ : Str) ≠ ⟨b.toArray⟩ := fun z => q (by injection z with z; exact List.toArray_inj z)
        rw [beq_false_of_ne q, beq_false_of_ne q2]
    | dic _ _ => simp only [flatD, Bool.false_eq_true] at k
    | td _ _ => simp only [flatD, Bool.false_eq_true] at k
    | obj _ _ _ => simp only [flatD, Bool.false_eq_true] at k
    | _ => simp only [toPy, PyData.eqv, eqB]
  | .tup _ xs, e, n, m, h, k => by
    cases e with
    | tup _ ys =>
      simp only [flatD, Bool.and_eq_true] at h k
      simp only [toPy, PyData.eqv, eqB]
      exact eqv_eqBL xs ys _ _ h.2 k.2
    | dic _ _ => simp only [flatD, Bool.false_eq_true] at k
    | td _ _ => simp only [flatD, Bool.false_eq_true] at k
    | obj _ _ _ => simp only [flatD, Bool.false_eq_true] at k
    | _ => simp only [toPy, PyData.eqv, eqB]
  | .lst _ xs, e, n, m, h, k => by
    cases e with
    | lst _ ys =>
      simp only [flatD, Bool.and_eq_true] at h k
      simp only [toPy, PyData.eqv, eqB]
      exact eqv_eqBL xs ys _ _ h.2 k.2
    | dic _ _ => simp only [flatD, Bool.false_eq_true] at k
    | td _ _ => simp only [flatD, Bool.false_eq_true] at k
    | obj _ _ _ => simp only [flatD, Bool.false_eq_true] at k
    | _ => simp only [toPy, PyData.eqv, eqB]
  | .dic _ _, _, n, m, h, k => by simp only [flatD, Bool.false_eq_true] at h
  | .td _ _, _, n, m, h, k => by simp only [flatD, Bool.false_eq_true] at h
  | .obj _ _ _, _, n, m, h, k => by simp only [flatD, Bool.false_eq_true] at h
theorem eqv_eqBL : ∀ (d e : List D) (n m : Nat), flatDL d n = true → flatDL e m = true → PyData.eqvAll (toPyL d) (toPyL e) = eqBL d e
  | [], [], _, _, _, _ => by simp only [toPyL, PyData.eqvAll, eqBL]
  | [], _ :: _, _, _, _, _ => by simp only [toPyL, PyData.eqvAll, eqBL]
  | _ :: _, [], _, _, _, _ => by simp only [toPyL, PyData.eqvAll, eqBL]
  | x :: xs, y :: ys, n, m, h, k => by
    simp only [flatDL, Bool.and_eq_true] at h k
    simp only [toPyL, PyData.eqvAll, eqBL, eqv_eqB x y n m h.1 k.1, eqv_eqBL xs ys n m h.2 k.2]
end
mutual
theorem shaped_of : ∀ (d : D) (n : Nat), flatD d n = true → (toPy d).canLay0 = true ∧ (toPy d).depth ≤ n
  | .non, _, _ => by simp only [toPy, PyData.canLay0, PyData.depth]; simp
  | .bl _, _, _ => by simp only [toPy, PyData.canLay0, PyData.depth]; simp
  | .int _, _, _ => by simp only [toPy, PyData.canLay0, PyData.depth]; simp
  | .str s, n, h => by
    simp only [flatD] at h
    simp only [toPy, PyData.canLay0, PyData.depth]
    refine ⟨?_, Nat.zero_le _⟩
    unfold PySem.PyData.strOk
    unfold okS at h
    simp only [List.all_eq_true, decide_eq_true_eq] at h
    simp only [List.all_toArray, List.all_eq_true, decide_eq_true_eq]
    intro c hc
    exact h c hc
  | .tup _ xs, n, h => by
    simp only [flatD, Bool.and_eq_true, decide_eq_true_eq] at h
    obtain ⟨a, b⟩ := shaped_ofL xs _ h.2
    simp only [toPy, PyData.canLay0, PyData.depth]
    exact ⟨a, by omega⟩
  | .lst _ xs, n, h => by
    simp only [flatD, Bool.and_eq_true, decide_eq_true_eq] at h
    obtain ⟨a, b⟩ := shaped_ofL xs _ h.2
    simp only [toPy, PyData.canLay0, PyData.depth]
    exact ⟨a, by omega⟩
  | .dic _ _, n, h => by simp only [flatD, Bool.false_eq_true] at h
  | .td _ _, n, h => by simp only [flatD, Bool.false_eq_true] at h
  | .obj _ _ _, n, h => by simp only [flatD, Bool.false_eq_true] at h
theorem shaped_ofL : ∀ (d : List D) (n : Nat), flatDL d n = true → PyData.canLayAll0 (toPyL d) = true ∧ PyData.depthAll (toPyL d) ≤ n
  | [], _, _ => by simp only [toPyL, PyData.canLayAll0, PyData.depthAll]; simp
  | x :: xs, n, h => by
    simp only [flatDL, Bool.and_eq_true] at h
    obtain ⟨a, b⟩ := shaped_of x n h.1
    obtain ⟨c, d⟩ := shaped_ofL xs n h.2
    simp only [toPyL, PyData.canLayAll0, PyData.depthAll, a, c, Bool.and_self, true_and]
    omega
end
theorem shaped50 {d : D} (h : flatD d 50 = true) : SeqAt.shaped (toPy d) = true := by
  obtain ⟨a, b⟩ := shaped_of d 50 h
  unfold SeqAt.shaped
  rw [a, Bool.true_and]
  exact decide_eq_true (by omega)
theorem eqB_scal {F H : Hp} {K : PySem.W.Frag} {x y : V} {d e : D} {f g : List Addr} (r1 : Ro K F H x d f) (r2 : Ro K F H y e g) (h1 : scalD d = true) (h2 : scalD e = true) (hb : (match d, e with | .bl _, .int _ => false | .int _, .bl _ => false | _, _ => true) = true) :
    scal x y = true ∧ decide (x = y) = eqB d e := by
  cases d <;> simp [scalD] at h1 <;> cases e <;> simp [scalD] at h2 <;> simp at hb
  all_goals first
    | (rw [r1.non_inv]) | (rw [r1.bl_inv]) | (rw [r1.int_inv]) | (rw [r1.str_inv])
  all_goals first
    | (rw [r2.non_inv]) | (rw [r2.bl_inv]) | (rw [r2.int_inv]) | (rw [r2.str_inv])
  all_goals simp [scal, eqB, stV]
  all_goals first | rfl | skip
  all_goals exact (Bool.beq_eq_decide_eq _ _).symm
def mixD : D → D → Bool
  | .bl _, .int _ => true
  | .int _, .bl _ => true
  | _, _ => false
theorem mix_flat {d e : D} (h : mixD d e = true) : flatD d 50 = true ∧ flatD e 50 = true := by
  cases d <;> cases e <;> simp [mixD] at h <;> simp [flatD]
theorem eqB_scal' {F H : Hp} {K : PySem.W.Frag} {x y : V} {d e : D} {f g : List Addr} (r1 : Ro K F H x d f) (r2 : Ro K F H y e g) (h1 : scalD d = true) (h2 : scalD e = true) (hb : mixD d e = false) :
    scal x y = true ∧ decide (x = y) = eqB d e := eqB_scal r1 r2 h1 h2 (by cases d <;> cases e <;> first | rfl | cases hb)
theorem scal_flatV {F H : Hp} {K : PySem.W.Frag} {x : V} {d : D} {f : List Addr} (r : Ro K F H x d f) (h : scalD d = true) : flatV x = true := by
  cases d <;> simp [scalD] at h
  · rw [r.non_inv]; rfl
  · rw [r.bl_inv]; rfl
  · rw [r.int_inv]; rfl
  · rw [r.str_inv]; rfl
theorem str_beq (a b : List Nat) : ((⟨a.toArray⟩ : Str) == ⟨b.toArray⟩) = (a == b) := by
  by_cases q : a = b
  · subst q; simp
  · have q2 : (⟨a.toArray⟩ : Str) ≠ ⟨b.toArray⟩ := fun z => q (by injection z with z; exact List.toArray_inj z)
    rw [beq_false_of_ne q, beq_false_of_ne q2]
theorem scal_eqV {F H : Hp} {K : PySem.W.Frag} {x y : V} {d e : D} {f g : List Addr} (r : Ro K F H x d f) (r2 : Ro K F H y e g) (h : scalD d = true) (h2 : scalD e = true) : eqV x y = eqB d e := by
  cases d <;> simp [scalD] at h <;> cases e <;> simp [scalD] at h2
  all_goals first
    | (rw [r.non_inv]) | (rw [r.bl_inv]) | (rw [r.int_inv]) | (rw [r.str_inv])
  all_goals first
    | (rw [r2.non_inv]) | (rw [r2.bl_inv]) | (rw [r2.int_inv]) | (rw [r2.str_inv])
  all_goals simp [eqV, eqB, stV]
  all_goals first | rfl | skip
  rw [str_beq]
theorem ros_mem {F H : Hp} {K : PySem.W.Frag} {x : V} {d : D} {f : List Addr} (r : Ro K F H x d f) (h : scalD d = true) : ∀ {vs : List V} {ds : List D} {g : List Addr}, Ros K F H vs ds g → ds.all scalD = true →
    vs.all flatV = true ∧ inV x vs = memD d ds
  | _, _, _, .nil, _ => ⟨rfl, rfl⟩
  | _, _, _, .cons k t, q => by
    simp only [List.all_cons, Bool.and_eq_true] at q
    obtain ⟨a, b⟩ := ros_mem r h t q.2
    refine ⟨by simp only [List.all_cons, scal_flatV k q.1, a, Bool.and_self], ?_⟩
    unfold inV memD at *
    simp only [List.any_cons, b, scal_eqV k r q.1 h]
theorem any_eqv {x : D} (hx : flatD x 50 = true) : ∀ {n : Nat} {xs : List D}, flatDL xs n = true → (toPyL xs).any (fun z => PyData.eqv z (toPy x)) = xs.any fun z => eqB z x
  | _, [], _ => by simp [toPyL]
  | n, z :: xs, h => by
    simp only [flatDL, Bool.and_eq_true] at h
    simp only [toPyL, List.any_cons, any_eqv hx h.2, eqv_eqB _ _ _ _ h.1 hx]
theorem op_isIn {o : CmpOp} {neg : Bool} (ruleD : OpR X (compareOp o) (fun x y H Q => ∃ d ds, Dp X.K H x d ∧ Dp X.K H y (.list ds) ∧ SeqAt.shaped d = true ∧ SeqAt.shaped (.list ds) = true ∧ Q (.bl (if neg then !(ds.any fun z => PyData.eqv z d) else ds.any fun z => PyData.eqv z d)) H)) (rule : OpR X (compareOp o) (rIn X.K neg)) {pins : List (Addr × Obj)} {s : Shared} {σ : L2.St} {F H : Hp} {x y : V} {v u : Value} {Q : VK} {d1 d2 : D} {f1 f2 : List Addr} {r : Bool} (I : Inv X pins σ H s) (rx : RelV x v) (ry : RelV y u)
    (sm : Same F H) (r1 : Ro X.K F H x d1 f1) (r2 : Ro X.K F H y d2 f2) (hb : isIn d1 d2 = some r) (hS : ∀ z, d2 ≠ .str z) (hT : ∀ ks xs, d2 ≠ .td ks xs) (q : Q (.bl (if neg then !r else r)) H) : wpAny (model X.prog X.w) X.A (compareOp o v u) (EP X pins σ Q) X.xe s := by
  cases d2 <;> simp only [isIn, reduceCtorEq] at hb
  case str z => exact (hS z rfl).elim
  case td ks xs => exact (hT ks xs rfl).elim
  case tup m xs =>
    split at hb
    · rename_i hl
      simp only [Bool.and_eq_true] at hl
      simp only [Option.some.injEq] at hb; subst hb
      obtain ⟨a, ws, g, rfl, sq, ro, _⟩ := r2.tup_inv sm
      obtain ⟨m1, m2⟩ := ros_mem r1 hl.1 ro hl.2
      exact rule pins s σ H _ _ v u Q I rx ry ⟨a, ws, rfl, .inr sq, scal_flatV r1 hl.1, m1, by rw [m2]; exact q⟩
    · cases hb
  case lst m xs =>
    split at hb
    · rename_i hl
      simp only [Bool.and_eq_true] at hl
      simp only [Option.some.injEq] at hb; subst hb
      obtain ⟨a, ws, g, rfl, sq, ro, _⟩ := r2.lst_inv sm
      obtain ⟨m1, m2⟩ := ros_mem r1 hl.1 ro hl.2
      exact rule pins s σ H _ _ v u Q I rx ry ⟨a, ws, rfl, .inl sq, scal_flatV r1 hl.1, m1, by rw [m2]; exact q⟩
    · split at hb
      · rename_i hl
        simp only [Bool.and_eq_true] at hl
        simp only [Option.some.injEq] at hb; subst hb
        have hxs : flatDL xs 49 = true := by
          have := hl.2
          simp only [flatD, Bool.and_eq_true] at this
          exact this.2
        have e2 := r2.dp sm (flat_can _ hl.2)
        simp only [toPy] at e2
        have sh := shaped50 hl.2
        simp only [toPy] at sh
        refine ruleD pins s σ H _ _ v u Q I rx ry ⟨_, _, r1.dp sm (flat_can _ hl.1), e2, shaped50 hl.1, sh, ?_⟩
        rw [any_eqv hl.1 hxs]
        exact q
      · cases hb
theorem ro_nonne {F H : Hp} {K : PySem.W.Frag} {x : V} {d : D} {f : List Addr} (r : Ro K F H x d f) : decide (x = .non) = (match d with | .non => true | _ => false) := by
  cases r with
  | frz r => cases r <;> rfl
  | tup _ _ => rfl
  | lst _ _ => rfl
  | dic _ _ _ _ => rfl
  | td _ _ _ _ _ _ _ _ => rfl
theorem op_isInS {o : CmpOp} {neg : Bool} (rule : OpR X (compareOp o) (fun x y H Q => ∃ i j, x = .str i ∧ y = .str j ∧ Q (.bl (if neg then !(!(Builtin.Str.occurrences j i 0 j.length 1).isEmpty) else !(Builtin.Str.occurrences j i 0 j.length 1).isEmpty)) H)) {pins : List (Addr × Obj)} {s : Shared} {σ : L2.St} {F H : Hp} {x y : V} {v u : Value} {Q : VK} {d1 : D} {z : List Nat} {f1 f2 : List Addr} {r : Bool} (I : Inv X pins σ H s) (rx : RelV x v) (ry : RelV y u)
    (r1 : Ro X.K F H x d1 f1) (r2 : Ro X.K F H y (.str z) f2) (hb : isIn d1 (.str z) = some r) (q : Q (.bl (if neg then !r else r)) H) : wpAny (model X.prog X.w) X.A (compareOp o v u) (EP X pins σ Q) X.xe s := by
  simp only [isIn] at hb
  cases d1 <;> simp only [reduceCtorEq, Option.some.injEq] at hb
  subst hb
  exact rule pins s σ H x y v u Q I rx ry ⟨_, _, r1.str_inv, r2.str_inv, by rw [str_len]; exact q⟩
def rCmp (K : PySem.W.Frag) (o : Cop) : R2 := fun x y H Q => ∃ F d1 d2 f1 f2 r, Same F H ∧ Ro K F H x d1 f1 ∧ Ro K F H y d2 f2 ∧ cmpop o d1 d2 = some r ∧ Q (.bl r) H
theorem op_cmp (hu : X.A.units + 80 < cLine) (o : Cop) : OpR X (compareOp (opC o)) (rCmp X.K o) := by
  intro pins s σ H x y v u Q I rx ry h
  obtain ⟨F, d1, d2, f1, f2, r, sm, r1, r2, hb, q⟩ := h
  cases o
  case eq =>
    simp only [cmpop] at hb
    split at hb
    · rename_i hl
      simp only [Option.some.injEq] at hb; subst hb
      simp only [Bool.or_eq_true, Bool.and_eq_true] at hl
      have fl : flatD d1 50 = true → flatD d2 50 = true → wpAny (model X.prog X.w) X.A (compareOp .Eq v u) (EP X pins σ Q) X.xe s := fun a b =>
        op_eqD (by omega) pins s σ H x y v u Q I rx ry ⟨_, _, r1.dp sm (flat_can _ a), r2.dp sm (flat_can _ b), shaped50 a, shaped50 b, by rw [eqv_eqB _ _ _ _ a b]; exact q⟩
      rcases hl with ⟨a, b⟩ | ⟨a, b⟩
      · cases hm : mixD d1 d2 with
        | true => exact fl (mix_flat hm).1 (mix_flat hm).2
        | false =>
          obtain ⟨z1, z2⟩ := eqB_scal' r1 r2 a b hm
          exact L2.op_eq pins s σ H x y v u Q I rx ry ⟨z1, by rw [z2]; exact q⟩
      · exact fl a b
    · cases hb
  case ne =>
    simp only [cmpop] at hb
    split at hb
    · rename_i hl
      simp only [Option.some.injEq] at hb; subst hb
      simp only [Bool.or_eq_true, Bool.and_eq_true] at hl
      have fl : flatD d1 50 = true → flatD d2 50 = true → wpAny (model X.prog X.w) X.A (compareOp .NotEq v u) (EP X pins σ Q) X.xe s := fun a b =>
        op_neD (by omega) pins s σ H x y v u Q I rx ry ⟨_, _, r1.dp sm (flat_can _ a), r2.dp sm (flat_can _ b), shaped50 a, shaped50 b, by rw [eqv_eqB _ _ _ _ a b]; exact q⟩
      rcases hl with ⟨a, b⟩ | ⟨a, b⟩
      · cases hm : mixD d1 d2 with
        | true => exact fl (mix_flat hm).1 (mix_flat hm).2
        | false =>
          obtain ⟨z1, z2⟩ := eqB_scal' r1 r2 a b hm
          exact L2.op_ne pins s σ H x y v u Q I rx ry ⟨z1, by rw [z2]; exact q⟩
      · exact fl a b
    · cases hb
  case lt =>
    cases d1 <;> cases d2 <;> simp only [cmpop, Option.some.injEq, reduceCtorEq] at hb
    subst hb
    exact op_lt pins s σ H x y v u Q I rx ry ⟨_, _, r1.int_inv, r2.int_inv, q⟩
  case le =>
    cases d1 <;> cases d2 <;> simp only [cmpop, Option.some.injEq, reduceCtorEq] at hb
    subst hb
    exact op_le pins s σ H x y v u Q I rx ry ⟨_, _, r1.int_inv, r2.int_inv, q⟩
  case gt =>
    cases d1 <;> cases d2 <;> simp only [cmpop, Option.some.injEq, reduceCtorEq] at hb
    subst hb
    exact op_gt pins s σ H x y v u Q I rx ry ⟨_, _, r1.int_inv, r2.int_inv, q⟩
  case ge =>
    cases d1 <;> cases d2 <;> simp only [cmpop, Option.some.injEq, reduceCtorEq] at hb
    subst hb
    exact op_ge pins s σ H x y v u Q I rx ry ⟨_, _, r1.int_inv, r2.int_inv, q⟩
  case isin =>
    simp only [cmpop] at hb
    by_cases hS : ∃ z, d2 = .str z
    · obtain ⟨z, rfl⟩ := hS
      exact op_isInS (neg := false) op_in_str I rx ry r1 r2 hb q
    · by_cases hT : ∃ ks xs, d2 = .td ks xs
      · obtain ⟨ks, xs, rfl⟩ := hT
        exact td_in (by omega) I rx ry sm r1 r2 hb q
      · exact op_isIn (neg := false) (op_inD (by omega)) op_in_seq I rx ry sm r1 r2 hb (fun z e => hS ⟨z, e⟩) (fun a b e => hT ⟨a, b, e⟩) q
  case notin =>
    simp only [cmpop, Option.map_eq_some_iff] at hb
    obtain ⟨r', hb, rfl⟩ := hb
    by_cases hS : ∃ z, d2 = .str z
    · obtain ⟨z, rfl⟩ := hS
      exact op_isInS (neg := true) op_notIn_str I rx ry r1 r2 hb q
    · by_cases hT : ∃ ks xs, d2 = .td ks xs
      · obtain ⟨ks, xs, rfl⟩ := hT
        exact td_notIn (by omega) I rx ry sm r1 r2 hb q
      · exact op_isIn (neg := true) (op_notInD (by omega)) op_notIn_seq I rx ry sm r1 r2 hb (fun z e => hS ⟨z, e⟩) (fun a b e => hT ⟨a, b, e⟩) q
  case isN =>
    have e := ro_nonne r1
    cases d2 <;> simp only [cmpop, reduceCtorEq] at hb
    have y0 := r2.non_inv
    refine op_isN pins s σ H x y v u Q I rx ry ⟨y0, ?_⟩
    rw [e]
    cases d1 <;> simp only [cmpop, Option.some.injEq] at hb <;> subst hb <;> exact q
  case notN =>
    have e := ro_nonne r1
    cases d2 <;> simp only [cmpop, reduceCtorEq] at hb
    have y0 := r2.non_inv
    refine op_notN pins s σ H x y v u Q I rx ry ⟨y0, ?_⟩
    rw [e]
    cases d1 <;> simp only [cmpop, Option.some.injEq] at hb <;> subst hb <;> exact q
/-! ### items, slices -/
theorem ixP_eq (n : Nat) (i : Int) : ixP n i = ixN n i := rfl
theorem atI_of {F H : Hp} {K : PySem.W.Frag} {vs : List V} {ds : List D} {g : List Addr} {i : Int} {x : D} (r : Ros K F H vs ds g) (h : ((ixP ds.length i).bind fun j => ds[j]?) = some x) : ∃ y f, atI vs i = some y ∧ Ro K F H y x f ∧ NS f g := by
  rw [Option.bind_eq_some_iff] at h
  obtain ⟨j, h1, h2⟩ := h
  obtain ⟨y, f, a, b, c⟩ := r.get h2
  refine ⟨y, f, ?_, b, c⟩
  unfold atI
  rw [r.len, ← ixP_eq, h1]
  exact a
def rIxD (K : PySem.W.Frag) : R2 := fun x y H Q => ∃ F d1 d2 f1 f2 d3, Same F H ∧ Ro K F H x d1 f1 ∧ Ro K F H y d2 f2 ∧ ixD d1 d2 = some d3 ∧ ∀ v f, Ro K F H v d3 f → NS f f1 → Q v H
theorem valV_kvL {s : List Nat} : ∀ {ks : List (List Nat)} {xs : List V} {j : Nat}, keyI ks s = some j → valV (kvL ks xs) (.inr ⟨s.toArray⟩) = xs[j]?
  | [], _, _, h => by cases h
  | k :: ks, [], j, _ => by cases ks <;> simp [kvL, valV_nil]
  | k :: ks, x :: xs, j, h => by
    have e : kvL (k :: ks) (x :: xs) = (.inr ⟨k.toArray⟩, x) :: kvL ks xs := rfl
    rw [e]
    unfold keyI at h
    split at h
    · rename_i hk
      subst hk
      cases h
      rw [valV_pos rfl]; rfl
    · rename_i hk
      rw [Option.map_eq_some_iff] at h
      obtain ⟨i, hi, rfl⟩ := h
      rw [valV_neg (fun z => hk (by
        injection z with z
        injection z with z
        have := congrArg Array.toList z
        simpa using this)), valV_kvL hi]
      rfl
theorem ix_dic (hu : X.A.units + 1 < cLine) : IxR X (fun x y H Q => ∃ a v, x = .ref a ∧ DGet H a y (some v) ∧ Q v H) := by
  intro value slice pins s σ H x y v u Q I rx ry h hs
  obtain ⟨a, w, rfl, g, q⟩ := h
  obtain rfl : v = Value.ref a := rx
  exact tail_any (dict_typeIs I g) PySem.F.slot_dict_getitem.lookup (d_getItem hu I g ry fun w' s3 I3 rw' => ⟨w, H, I3, rw', q⟩) hs
theorem op_ix (hu : X.A.units + 80 < cLine) : IxR X (rIxD X.K) := by
  intro value slice pins s σ H x y v u Q I rx ry h hs
  obtain ⟨F, d1, d2, f1, f2, d3, sm, r1, r2, hb, q⟩ := h
  cases d1 <;> cases d2 <;> simp only [ixD, reduceCtorEq] at hb
  case str.int z i =>
    split at hb
    · rename_i hl
      rw [Option.map_eq_some_iff] at hb
      obtain ⟨c, hc, rfl⟩ := hb
      refine ix_str value slice pins s σ H x y v u Q I rx ry ⟨⟨z.toArray⟩, i, c, r1.str_inv, r2.int_inv, by rw [str_len, ← sizeL_eq]; exact hl, ?_, q _ [] (.frz (.str [c])) ⟨fun _ hx => (nomatch hx), fun _ => List.nodup_nil⟩⟩ hs
      show atI z i = some c
      unfold atI
      rw [← ixP_eq]
      exact hc
    · cases hb
  case tup.int m xs i =>
    obtain ⟨a, ws, g, rfl, sq, ro, ns⟩ := r1.tup_inv sm
    obtain ⟨y', f', h1, h2, h3⟩ := atI_of ro hb
    exact ix_tup value slice pins s σ H _ y v u Q I rx ry ⟨a, ws, i, y', rfl, r2.int_inv, sq, h1, q y' f' h2 (h3.trans ns)⟩ hs
  case lst.int m xs i =>
    obtain ⟨a, ws, g, rfl, sq, ro, ns⟩ := r1.lst_inv sm
    obtain ⟨y', f', h1, h2, h3⟩ := atI_of ro hb
    exact ix_list value slice pins s σ H _ y v u Q I rx ry ⟨a, ws, i, y', rfl, r2.int_inv, sq, h1, q y' f' h2 (h3.trans ns)⟩ hs
  case dic.str ks xs z =>
    rw [Option.bind_eq_some_iff] at hb
    obtain ⟨j, hj, hx⟩ := hb
    cases r1 with
    | frz r => cases r
    | dic h l n rs =>
      rename_i a ws fp0
      obtain ⟨y', f', h1, h2, h3⟩ := rs.get hx
      have dg := DGet.k (k := .inr ⟨z.toArray⟩) h
      rw [valV_kvL hj, h1] at dg
      have ey : y = kV (.inr ⟨z.toArray⟩) := r2.str_inv
      rw [← ey] at dg
      exact ix_dic (by omega) value slice pins s σ H _ y v u Q I rx ry ⟨a, y', rfl, dg, q y' f' h2 (h3.trans (.sub (List.sublist_cons_self ..)))⟩ hs
  case td.tup ks xs m ys =>
    split at hb
    · rename_i hk
      exact td_ix (by omega) value slice I rx ry sm r1 r2 hk hb q hs
    · cases hb
theorem slP_eq (n d : Nat) (i : Option Int) : slP n d i = HT.sIx n d i := by
  cases i with
  | none => rfl
  | some i =>
    unfold slP HT.sIx
    first | rfl | (split <;> split <;> omega) | skip
theorem cut_eq {α : Type} (xs : List α) (lo hi : Option Int) : cut xs lo hi = (xs.drop (HT.sIx xs.length 0 lo)).take (HT.sIx xs.length xs.length hi - HT.sIx xs.length 0 lo) := by
  unfold cut
  rw [slP_eq, slP_eq]
def rSlD (K : PySem.W.Frag) : V → Option Int → Option Int → Hp → VK → Prop := fun x lo hi H Q => ∃ F d1 f1 d3, Same F H ∧ Ro K F H x d1 f1 ∧ slD d1 lo hi = some d3 ∧ Rslt K F H d3 Q
theorem op_sl : SlR X (rSlD X.K) := by
  intro pins s σ H x v vl vu lo hi sl Q I rx hs pl pu h
  obtain ⟨F, d1, f1, d3, sm, r1, hb, rs⟩ := h
  cases d1 <;> simp only [slD, reduceCtorEq] at hb
  case str z =>
    split at hb
    · rename_i hl
      simp only [Option.some.injEq] at hb; subst hb
      refine sl_str pins s σ H x v vl vu lo hi sl Q I rx hs pl pu ⟨⟨z.toArray⟩, r1.str_inv, by rw [str_len, ← sizeL_eq]; exact hl, ?_⟩
      have e : cutS ⟨z.toArray⟩ lo hi = ⟨(cut z lo hi).toArray⟩ := by
        rw [cut_eq]
        unfold cutS
        rw [str_len] <;> rfl
      rw [e]
      exact rs.1 _ (.str _)
    · cases hb
  case lst m xs =>
    split at hb
    · rename_i hl
      simp only [Option.some.injEq] at hb; subst hb
      obtain ⟨a, ws, g, rfl, sq, ro, ns⟩ := r1.lst_inv sm
      obtain ⟨rf, _⟩ := ro.frozen hl
      refine sl_list pins s σ H _ v vl vu lo hi sl Q I rx hs pl pu ⟨a, ws, rfl, sq, rs.2.1 _ _ rfl ?_⟩
      rw [cut_eq]
      unfold cutV
      rw [rf.len]
      exact (rf.drop _).take _
    · cases hb

  case tup m xs =>
    split at hb
    · rename_i hl
      simp only [Bool.and_eq_true, Bool.not_eq_true'] at hl
      obtain ⟨hm, hf⟩ := hl
      subst hm
      obtain ⟨a, ws, g, rfl, sq, ro, ns⟩ := r1.tup_inv sm
      obtain ⟨rf, _⟩ := ro.frozen hf
      refine sl_tupA pins s σ H _ v vl vu lo hi sl Q I rx hs pl pu ⟨a, ws, rfl, sq, fun hw => ?_, fun hw => ?_⟩
      · rw [rf.len, ← slP_eq, ← slP_eq] at hw
        rw [if_pos hw] at hb
        simp only [Option.some.injEq] at hb; subst hb
        cases r1 with
        | frz r => exact rs.1 _ r
      · rw [rf.len, ← slP_eq, ← slP_eq] at hw
        rw [if_neg hw] at hb
        simp only [Option.some.injEq] at hb; subst hb
        refine rs.2.2 _ _ rfl ?_
        rw [cut_eq]
        unfold cutV
        rw [rf.len]
        exact (rf.drop _).take _
    · cases hb
theorem _root_.Z.Rfs.reverse {K : PySem.W.Frag} {F : Hp} : ∀ {v : List V} {d : List D}, Rfs K F v d → Rfs K F v.reverse d.reverse
  | _, _, .nil => .nil
  | _, _, .cons h r => by
    rw [List.reverse_cons, List.reverse_cons]
    exact (Rfs.reverse r).app (.cons h .nil)
/-- x[::-1] -/
theorem rev_of {K : PySem.W.Frag} {F H : Hp} {x : V} {d d3 : D} {f : List Addr} {Q : VK} (sm : Same F H) (r : Ro K F H x d f) (h : revD d = some d3) (rs : Rslt K F H d3 Q) :
    ∃ a xs, x = .ref a ∧ ((SqL K H a xs ∧ ∀ p, H p = none → Q (.ref p) (upd H p (.lst xs.reverse))) ∨ (SqT K H a xs ∧ ∀ p, H p = none → Q (.ref p) (upd H p (.tup xs.reverse)))) := by
  cases d <;> simp only [revD, reduceCtorEq] at h
  case tup m xs =>
    split at h
    · rename_i hf
      simp only [Option.some.injEq] at h; subst h
      obtain ⟨a, ws, g, rfl, sq, ro, _⟩ := r.tup_inv sm
      exact ⟨a, ws, rfl, .inr ⟨sq, rs.2.2 _ _ rfl (ro.frozen hf).1.reverse⟩⟩
    · cases h
  case lst m xs =>
    split at h
    · rename_i hf
      simp only [Option.some.injEq] at h; subst h
      obtain ⟨a, ws, g, rfl, sq, ro, _⟩ := r.lst_inv sm
      exact ⟨a, ws, rfl, .inl ⟨sq, rs.2.1 _ _ rfl (ro.frozen hf).1.reverse⟩⟩
    · cases h

/-! ### built-in functions -/
mutual
theorem shOk_py : ∀ d : D, shOk d = true → (toPy d).showable = true ∧ (toPy d).hasDict = false
  | .non, _ => by simp [toPy, PyData.showable, PyData.hasDict]
  | .bl _, _ => by simp [toPy, PyData.showable, PyData.hasDict]
  | .int i, h => by
    simp only [shOk, decide_eq_true_eq] at h
    simp only [toPy, PyData.showable, PyData.hasDict, decide_eq_true_eq]
    exact ⟨by unfold bits at h; omega, trivial⟩
  | .str _, _ => by simp [toPy, PyData.showable, PyData.hasDict]
  | .tup _ xs, h => by
    simp only [shOk] at h
    simp only [toPy, PyData.showable, PyData.hasDict]
    exact shOk_pyL xs h
  | .lst _ xs, h => by
    simp only [shOk] at h
    simp only [toPy, PyData.showable, PyData.hasDict]
    exact shOk_pyL xs h
  | .dic _ _, h => by simp [shOk] at h
  | .td _ _, h => by simp [shOk] at h
  | .obj _ _ _, h => by simp [shOk] at h
theorem shOk_pyL : ∀ d : List D, shOkL d = true → PyData.showableAll (toPyL d) = true ∧ PyData.hasDictAll (toPyL d) = false
  | [], _ => by simp [toPyL, PyData.showableAll, PyData.hasDictAll]
  | x :: xs, h => by
    simp only [shOkL, Bool.and_eq_true] at h
    obtain ⟨a, b⟩ := shOk_py x h.1
    obtain ⟨c, d⟩ := shOk_pyL xs h.2
    simp only [toPyL, PyData.showableAll, PyData.hasDictAll, a, b, c, d]
    exact ⟨rfl, rfl⟩
end
mutual
theorem show_len : ∀ (d : D) (n : Nat), flatD d n = true → (toPy d).shown.length ≤ repSz d
  | .non, _, _ => by simp only [toPy, PyData.shown, repSz]; decide
  | .bl b, _, _ => by cases b <;> simp only [toPy, PyData.shown, repSz] <;> decide
  | .int i, _, _ => by
    simp only [toPy, PyData.shown, repSz]
    rw [PySem.ofString_length]
    have := int_text_length_le (a := i) (k := bits i + 1) (Nat.succ_pos _) (Nat.lt_succ_self _)
    omega
  | .str s, n, h => by
    simp only [flatD, okS, List.all_eq_true, decide_eq_true_eq] at h
    simp only [toPy, PyData.shown, repSz]
    have := StrLaws.reprText_len ⟨s.toArray⟩ (fun c hc => Nat.lt_trans (h c (by simpa using hc)) (by decide))
    have e : (⟨s.toArray⟩ : Str).length = s.length := str_len s
    omega
  | .tup _ xs, n, h => by
    simp only [flatD, Bool.and_eq_true] at h
    have := show_lenL xs _ h.2
    simp only [toPy, PyData.shown, repSz]
    unfold tupleText
    rw [strLen_append, strLen_append]
    have e1 : ((("(" : String) : Str)).length = 1 := rfl
    have e3 : (((if (PyData.shownAll (toPyL xs)).length == 1 then ",)" else ")" : String) : Str)).length ≤ 2 := by split <;> decide
    omega
  | .lst _ xs, n, h => by
    simp only [flatD, Bool.and_eq_true] at h
    have := show_lenL xs _ h.2
    simp only [toPy, PyData.shown, repSz]
    rw [listText_eq_join, strLen_append, strLen_append]
    have e1 : ((("[" : String) : Str)).length = 1 := rfl
    have e3 : ((("]" : String) : Str)).length = 1 := rfl
    omega
  | .dic _ _, n, h => by simp only [flatD, Bool.false_eq_true] at h
  | .td _ _, n, h => by simp only [flatD, Bool.false_eq_true] at h
  | .obj _ _ _, n, h => by simp only [flatD, Bool.false_eq_true] at h
theorem show_lenL : ∀ (d : List D) (n : Nat), flatDL d n = true → (Str.join ", " (PyData.shownAll (toPyL d))).length ≤ repSzL d
  | [], _, _ => by simp only [toPyL, PyData.shownAll, repSzL]; decide
  | [x], n, h => by
    simp only [flatDL, Bool.and_eq_true] at h
    have := show_len x n h.1
    simp only [toPyL, PyData.shownAll, repSzL]
    show (toPy x).shown.length ≤ _
    omega
  | x :: y :: xs, n, h => by
    simp only [flatDL, Bool.and_eq_true] at h
    have h1 := show_len x n h.1
    have h2 := show_lenL (y :: xs) n (by simp only [flatDL, Bool.and_eq_true]; exact h.2)
    simp only [toPyL, PyData.shownAll] at h2 ⊢
    show ((toPy x).shown ++ ", " ++ Str.join ", " ((toPy y).shown :: PyData.shownAll (toPyL xs))).length ≤ _
    have e2 : ((", " : String) : Str).length = 2 := rfl
    rw [strLen_append, strLen_append, e2]
    rw [repSzL]
    omega
end
theorem call_repr (hu : X.A.units + 100 < cLine) (hg : X.A.guards = some []) : CallR X (.builtin "repr") (fun xs H Q => ∃ F v d f, xs = [v] ∧ Same F H ∧ Ro X.K F H v d f ∧ shOk d = true ∧ flatD d 50 = true ∧ repSz d ≤ 10000000 ∧ Q (stV (showD d)) H) := by
  intro pins s σ H xs us Q I rs h
  obtain ⟨F, v, d, f, rfl, sm, r, h1, h2, h3, q⟩ := h
  obtain ⟨u, rfl, rx⟩ := vals1 rs
  obtain ⟨as, rd⟩ := Dp.reads I (toPy d) v u (r.dp sm (flat_can _ h2)) rx
  obtain ⟨s1, s2⟩ := shOk_py d h1
  have hl := show_len d 50 h2
  have hz : (toPy d).shown.length ≤ sizeLine := by rw [sizeLine_eq]; omega
  have hdp := (shaped_of d 50 h2).2
  have eV : stV (showD d) = V.str (toPy d).shown := by
    unfold stV showD
    simp
  rw [eV] at q
  cases hd : d with
  | non =>
    subst hd
    obtain rfl : u = Value.none := by have e := r.non_inv; subst e; exact rx
    exact PySem.P.repr_of_none ⟨V.str (toPy .non).shown, H, I.tok _, ⟨s.toks, by simp only [toPy, PyData.shown]⟩, q⟩
  | bl b =>
    subst hd
    obtain rfl : u = Value.bool b := by have e := r.bl_inv; subst e; exact rx
    exact PySem.P.repr_of_bool ⟨V.str (toPy (.bl b)).shown, H, I.tok _, ⟨_, by cases b <;> simp only [toPy, PyData.shown] <;> rfl⟩, q⟩
  | int i =>
    subst hd
    obtain ⟨t, rfl⟩ : ∃ t, u = Value.int i t := by have e := r.int_inv; subst e; exact rx
    simp only [shOk, decide_eq_true_eq] at h1
    exact PySem.P.repr_of_int (by unfold bits at h1; omega) ⟨V.str (toPy (.int i)).shown, H, I.tok _, ⟨s.toks, by simp only [toPy, PyData.shown]⟩, q⟩
  | str z =>
    subst hd
    obtain ⟨t, rfl⟩ : ∃ t, u = Value.str ⟨z.toArray⟩ t := by have e := r.str_inv; subst e; exact rx
    exact PySem.P.repr_of_str ⟨V.str (toPy (.str z)).shown, H, I.tok _, ⟨s.toks, by simp only [toPy, PyData.shown]⟩, q⟩ (by simpa only [toPy, PyData.shown] using hz)
  | tup m xs =>
    subst hd
    obtain ⟨a, _, _, rfl, _⟩ := r.tup_inv sm
    obtain rfl : u = Value.ref a := rx
    exact repr_of_reads' rd s1 (PyData.noDict_hsm s2) hg (by omega) (fun _ _ e => e) (fun h' u tk hk => ⟨V.str (toPy (.tup m xs)).shown, H, I.kept hk, ⟨_, rfl⟩, q⟩) hz
  | lst m xs =>
    subst hd
    obtain ⟨a, _, _, rfl, _⟩ := r.lst_inv sm
    obtain rfl : u = Value.ref a := rx
    exact repr_of_reads' rd s1 (PyData.noDict_hsm s2) hg (by omega) (fun _ _ e => e) (fun h' u tk hk => ⟨V.str (toPy (.lst m xs)).shown, H, I.kept hk, ⟨_, rfl⟩, q⟩) hz
  | dic _ _ => subst hd; simp [shOk] at h1
  | td _ _ => subst hd; simp [shOk] at h1
  | obj _ _ _ => subst hd; simp [shOk] at h1
  | exc _ _ => subst hd; simp [shOk] at h1

/-- the built-in function behind a name -/
def biName : Bi → Str × Value
  | .len => ("len", .builtin "len")
  | .abs => ("abs", .builtin "abs")
  | .min2 => ("min", .builtin "min")
  | .max2 => ("max", .builtin "max")
  | .toInt => ("int", .type "int")
  | .toList => ("list", .type "list")
  | .toTuple => ("tuple", .type "tuple")
  | .repr => ("repr", .builtin "repr")
  | .min1 => ("min", .builtin "min")
  | .max1 => ("max", .builtin "max")
  | .min3 => ("min", .builtin "min")
  | .max3 => ("max", .builtin "max")
  | .all1 => ("all", .builtin "all")
  | .sum1 => ("sum", .builtin "sum")
  | .toStr => ("str", .type "str")
theorem ints_of {K : PySem.W.Frag} {F H : Hp} : ∀ {vs : List V} {ds : List D} {g : List Addr} {is : List Int}, Ros K F H vs ds g → intsOf ds = some is → vs = is.map V.int
  | _, _, _, _, .nil, h => by simp only [intsOf, Option.some.injEq] at h; subst h; rfl
  | _, _, _, is, .cons (d := d) r t, h => by
    cases d <;> simp only [intsOf, reduceCtorEq, Option.map_eq_some_iff] at h
    obtain ⟨js, h, rfl⟩ := h
    rw [r.int_inv, ints_of t h]; rfl
theorem bls_of {K : PySem.W.Frag} {F H : Hp} : ∀ {vs : List V} {ds : List D} {g : List Addr} {is : List Bool}, Ros K F H vs ds g → blsOf ds = some is → vs = is.map V.bl
  | _, _, _, _, .nil, h => by simp only [blsOf, Option.some.injEq] at h; subst h; rfl
  | _, _, _, is, .cons (d := d) r t, h => by
    cases d <;> simp only [blsOf, reduceCtorEq, Option.map_eq_some_iff] at h
    obtain ⟨js, h, rfl⟩ := h
    rw [r.bl_inv, bls_of t h]; rfl
theorem strs_of {K : PySem.W.Frag} {F H : Hp} : ∀ {vs : List V} {ds : List D} {g : List Addr} {is : List (List Nat)}, Ros K F H vs ds g → strsOf ds = some is → vs = (is.map fun s => (⟨s.toArray⟩ : Str)).map V.str
  | _, _, _, _, .nil, h => by simp only [strsOf, Option.some.injEq] at h; subst h; rfl
  | _, _, _, is, .cons (d := d) r t, h => by
    cases d <;> simp only [strsOf, reduceCtorEq, Option.map_eq_some_iff] at h
    obtain ⟨js, h, rfl⟩ := h
    rw [r.str_inv, strs_of t h]; rfl
/-- some Ro for each -/
inductive Rox (K : PySem.W.Frag) (F H : Hp) : List V → List D → Prop
  | nil : Rox K F H [] []
  | cons {v : V} {vs : List V} {d : D} {ds : List D} {f : List Addr} : Ro K F H v d f → Rox K F H vs ds → Rox K F H (v :: vs) (d :: ds)
def rBi (K : PySem.W.Frag) (o : Bi) : List V → Hp → VK → Prop := fun xs H Q => ∃ F ds d3, Same F H ∧ Rox K F H xs ds ∧ biop o ds = some d3 ∧ Rslt K F H d3 Q
theorem biop_three {o : Bi} {ds : List D} {d : D} (ho : o = .min3 ∨ o = .max3) (h : biop o ds = some d) : ∃ i j k, ds = [.int i, .int j, .int k] ∧ True := by
  match ds with
  | [.int i, .int j, .int k] => exact ⟨i, j, k, rfl, trivial⟩
  | [] => rcases ho with rfl | rfl <;> simp [biop] at h
  | [_] => rcases ho with rfl | rfl <;> simp [biop] at h
  | [_, _] => rcases ho with rfl | rfl <;> simp [biop] at h
  | a :: b :: c :: e :: r => rcases ho with rfl | rfl <;> simp [biop] at h
  | [a, b, c] =>
    rcases ho with rfl | rfl <;> cases a <;> cases b <;> cases c <;> first | exact ⟨_, _, _, rfl, trivial⟩ | simp [biop] at h
theorem op_bi (hc : X.calm = true) (hu : X.A.units + 100 < cLine) (hg : X.A.guards = some []) (o : Bi) : CallR X (biName o).2 (rBi X.K o) := by
  intro pins s σ H xs us Q I rs h
  obtain ⟨F, ds, d3, sm, rx, hb, rr⟩ := h
  cases o
  case len =>
    refine call_len pins s σ H xs us Q I rs ?_
    cases rx with
    | nil => simp [biop] at hb
    | cons r t =>
      cases t with
      | cons _ _ => rename_i d _ _ _ _ _ _; cases d <;> simp [biop] at hb
      | nil =>
        rename_i d _
        cases d <;> simp only [biop, reduceCtorEq] at hb
        case str z =>
          split at hb
          · rename_i hl
            simp only [Option.some.injEq] at hb; subst hb
            refine ⟨stV z, z.length, by rw [r.str_inv], ⟨by rw [str_len, ← sizeL_eq]; exact hl, (str_len z).symm⟩, rr.1 _ (.int _)⟩
          · cases hb
        case tup m ys =>
          simp only [Option.some.injEq] at hb; subst hb
          obtain ⟨a, ws, g, rfl, sq, ro, ns⟩ := r.tup_inv sm
          exact ⟨_, ys.length, rfl, .inr ⟨ws, sq, ro.len.symm⟩, rr.1 _ (.int _)⟩
        case lst m ys =>
          simp only [Option.some.injEq] at hb; subst hb
          obtain ⟨a, ws, g, rfl, sq, ro, ns⟩ := r.lst_inv sm
          exact ⟨_, ys.length, rfl, .inl ⟨ws, sq, ro.len.symm⟩, rr.1 _ (.int _)⟩
  case abs =>
    refine call_abs pins s σ H xs us Q I rs ?_
    cases rx with
    | nil => simp [biop] at hb
    | cons r t =>
      cases t with
      | cons _ _ => rename_i d _ _ _ _ _ _; cases d <;> simp [biop] at hb
      | nil =>
        rename_i d _
        cases d <;> simp only [biop, reduceCtorEq, Option.some.injEq] at hb
        subst hb
        exact ⟨_, by rw [r.int_inv], rr.1 _ (.int _)⟩
  case min2 =>
    refine call_min2 hc pins s σ H xs us Q I rs ?_
    cases rx with
    | nil => simp [biop] at hb
    | cons r t =>
      cases t with
      | nil => rename_i d _; cases d <;> simp [biop] at hb
      | cons r2 t =>
        cases t with
        | cons _ _ => rename_i d _ _ _ d2 _ _ _ _ _ _; cases d <;> cases d2 <;> simp [biop] at hb
        | nil =>
          rename_i d _ _ d2 _
          cases d <;> cases d2 <;> simp only [biop, reduceCtorEq, Option.some.injEq] at hb
          subst hb
          exact ⟨_, _, by rw [r.int_inv, r2.int_inv], rr.1 _ (.int _)⟩
  case max2 =>
    refine call_max2 hc pins s σ H xs us Q I rs ?_
    cases rx with
    | nil => simp [biop] at hb
    | cons r t =>
      cases t with
      | nil => rename_i d _; cases d <;> simp [biop] at hb
      | cons r2 t =>
        cases t with
        | cons _ _ => rename_i d _ _ _ d2 _ _ _ _ _ _; cases d <;> cases d2 <;> simp [biop] at hb
        | nil =>
          rename_i d _ _ d2 _
          cases d <;> cases d2 <;> simp only [biop, reduceCtorEq, Option.some.injEq] at hb
          subst hb
          exact ⟨_, _, by rw [r.int_inv, r2.int_inv], rr.1 _ (.int _)⟩
  case toInt =>
    cases rx with
    | nil => simp [biop] at hb
    | cons r t =>
      cases t with
      | cons _ _ => rename_i d _ _ _ _ _ _; cases d <;> simp [biop] at hb
      | nil =>
        rename_i d _
        cases d <;> simp only [biop, reduceCtorEq, Option.some.injEq] at hb
        case bl b => subst hb; exact call_int1 pins s σ H _ us Q I rs (.inr ⟨_, by rw [r.bl_inv], rr.1 _ (.int _)⟩)
        case int i => subst hb; exact call_int1 pins s σ H _ us Q I rs (.inl ⟨_, by rw [r.int_inv], rr.1 _ (.int _)⟩)
        case str a =>
          split at hb
          · rename_i hl
            simp only [Option.map_eq_some_iff] at hb
            obtain ⟨n, hn, rfl⟩ := hb
            exact call_int_str pins s σ H _ us Q I rs ⟨_, n, congrArg (· :: []) r.str_inv, hn, by rw [str_len]; exact hl, rr.1 _ (.int _)⟩
          · cases hb
  case toStr =>
    refine call_str_int pins s σ H xs us Q I rs ?_
    cases rx with
    | nil => simp [biop] at hb
    | cons r t =>
      cases t with
      | cons _ _ => rename_i d _ _ _ _ _ _; cases d <;> simp [biop] at hb
      | nil =>
        rename_i d _
        cases d <;> simp only [biop, reduceCtorEq] at hb
        split at hb
        · rename_i hl
          simp only [Option.some.injEq] at hb; subst hb
          refine ⟨_, congrArg (· :: []) r.int_inv, by unfold bits at hl; omega, ?_⟩
          have := rr.1 _ (.str (strI _))
          unfold stV strI at this
          simpa using this
        · cases hb
  case toList =>
    refine call_list_of pins s σ H xs us Q I rs ?_
    cases rx with
    | nil => simp [biop] at hb
    | cons r t =>
      cases t with
      | cons _ _ => rename_i d _ _ _ _ _ _; cases d <;> simp [biop] at hb
      | nil =>
        rename_i d _
        cases d <;> simp only [biop, reduceCtorEq] at hb
        case tup m ys =>
          split at hb
          · rename_i hl
            simp only [Option.some.injEq] at hb; subst hb
            obtain ⟨a, ws, g, rfl, sq, ro, ns⟩ := r.tup_inv sm
            exact ⟨a, ws, rfl, .inr sq, rr.2.1 _ _ rfl (ro.frozen hl).1⟩
          · cases hb
        case lst m ys =>
          split at hb
          · rename_i hl
            simp only [Option.some.injEq] at hb; subst hb
            obtain ⟨a, ws, g, rfl, sq, ro, ns⟩ := r.lst_inv sm
            exact ⟨a, ws, rfl, .inl sq, rr.2.1 _ _ rfl (ro.frozen hl).1⟩
          · cases hb
  case toTuple =>
    refine call_tuple_of pins s σ H xs us Q I rs ?_
    cases rx with
    | nil => simp [biop] at hb
    | cons r t =>
      cases t with
      | cons _ _ => rename_i d _ _ _ _ _ _; cases d <;> simp [biop] at hb
      | nil =>
        rename_i d _
        cases d <;> simp only [biop, reduceCtorEq] at hb
        case lst m ys =>
          split at hb
          · rename_i hl
            simp only [Option.some.injEq] at hb; subst hb
            obtain ⟨a, ws, g, rfl, sq, ro, ns⟩ := r.lst_inv sm
            exact ⟨a, ws, rfl, .inl ⟨sq, rr.2.2 _ _ rfl (ro.frozen hl).1⟩⟩
          · cases hb
  case repr =>
    refine call_repr hu hg pins s σ H xs us Q I rs ?_
    cases rx with
    | nil => simp [biop] at hb
    | cons r t =>
      cases t with
      | cons _ _ => simp [biop] at hb
      | nil =>
        rename_i d _
        simp only [biop] at hb
        split at hb
        · rename_i hl
          simp only [Option.some.injEq] at hb; subst hb
          simp only [Bool.and_eq_true, decide_eq_true_eq] at hl
          exact ⟨F, _, d, _, rfl, sm, r, hl.1.1, hl.1.2, hl.2, rr.1 _ (.str _)⟩
        · cases hb
  case min1 =>
    refine call_minS hc (by omega) pins s σ H xs us Q I rs ?_
    cases rx with
    | nil => simp [biop] at hb
    | cons r t =>
      cases t with
      | cons _ _ => rename_i d _ _ _ _ _ _; cases d <;> simp [biop] at hb
      | nil =>
        rename_i d _
        cases d <;> simp only [biop, reduceCtorEq, Option.map_eq_some_iff, Option.bind_eq_some_iff] at hb
        all_goals
          obtain ⟨k, ⟨is, h1, h2⟩, rfl⟩ := hb
          cases is with
          | nil => simp [minI] at h2
          | cons i is =>
            simp only [minI, Option.some.injEq] at h2; subst h2
            first
              | (obtain ⟨a, ws, g, rfl, sq, ro, ns⟩ := r.tup_inv sm
                 rw [ints_of ro h1] at sq
                 exact ⟨a, i, is, rfl, .inr sq, rr.1 _ (.int _)⟩)
              | (obtain ⟨a, ws, g, rfl, sq, ro, ns⟩ := r.lst_inv sm
                 rw [ints_of ro h1] at sq
                 exact ⟨a, i, is, rfl, .inl sq, rr.1 _ (.int _)⟩)
  case max1 =>
    refine call_maxS hc (by omega) pins s σ H xs us Q I rs ?_
    cases rx with
    | nil => simp [biop] at hb
    | cons r t =>
      cases t with
      | cons _ _ => rename_i d _ _ _ _ _ _; cases d <;> simp [biop] at hb
      | nil =>
        rename_i d _
        cases d <;> simp only [biop, reduceCtorEq, Option.map_eq_some_iff, Option.bind_eq_some_iff] at hb
        all_goals
          obtain ⟨k, ⟨is, h1, h2⟩, rfl⟩ := hb
          cases is with
          | nil => simp [maxI] at h2
          | cons i is =>
            simp only [maxI, Option.some.injEq] at h2; subst h2
            first
              | (obtain ⟨a, ws, g, rfl, sq, ro, ns⟩ := r.tup_inv sm
                 rw [ints_of ro h1] at sq
                 exact ⟨a, i, is, rfl, .inr sq, rr.1 _ (.int _)⟩)
              | (obtain ⟨a, ws, g, rfl, sq, ro, ns⟩ := r.lst_inv sm
                 rw [ints_of ro h1] at sq
                 exact ⟨a, i, is, rfl, .inl sq, rr.1 _ (.int _)⟩)
  case min3 =>
    refine call_min3S hc pins s σ H xs us Q I rs ?_
    obtain ⟨i, j, k, rfl, e⟩ := biop_three (.inl rfl) hb
    cases rx with
    | cons r1 t => cases t with
      | cons r2 t => cases t with
        | cons r3 t => cases t with
          | nil =>
            simp only [biop, Option.some.injEq] at hb; subst hb
            exact ⟨i, j, k, by rw [r1.int_inv, r2.int_inv, r3.int_inv], rr.1 _ (.int _)⟩
  case max3 =>
    refine call_max3S hc pins s σ H xs us Q I rs ?_
    obtain ⟨i, j, k, rfl, e⟩ := biop_three (.inr rfl) hb
    cases rx with
    | cons r1 t => cases t with
      | cons r2 t => cases t with
        | cons r3 t => cases t with
          | nil =>
            simp only [biop, Option.some.injEq] at hb; subst hb
            exact ⟨i, j, k, by rw [r1.int_inv, r2.int_inv, r3.int_inv], rr.1 _ (.int _)⟩
  case all1 =>
    refine cr_all hc pins s σ H xs us Q I rs ?_
    cases rx with
    | nil => simp [biop] at hb
    | cons r t =>
      cases t with
      | cons _ _ => rename_i d _ _ _ _ _ _; cases d <;> simp [biop] at hb
      | nil =>
        rename_i d _
        cases d <;> simp only [biop, reduceCtorEq, Option.map_eq_some_iff] at hb
        obtain ⟨is, h1, rfl⟩ := hb
        obtain ⟨a, ws, g, rfl, sq, ro, ns⟩ := r.lst_inv sm
        rw [bls_of ro h1] at sq
        exact ⟨a, is, rfl, sq, rr.1 _ (.bl _)⟩
  case sum1 =>
    refine cr_sum hc pins s σ H xs us Q I rs ?_
    cases rx with
    | nil => simp [biop] at hb
    | cons r t =>
      cases t with
      | cons _ _ => rename_i d _ _ _ _ _ _; cases d <;> simp [biop] at hb
      | nil =>
        rename_i d _
        cases d <;> simp only [biop, reduceCtorEq, Option.map_eq_some_iff] at hb
        obtain ⟨is, h1, rfl⟩ := hb
        obtain ⟨a, ws, g, rfl, sq, ro, ns⟩ := r.lst_inv sm
        rw [ints_of ro h1] at sq
        exact ⟨a, is, rfl, sq, rr.1 _ (.int _)⟩
/-! methods of values -/
def bmTy : Bm → String
  | .join => "str"
  | .sidx => "str"
  | .split => "str"
def bmName : Bm → Str
  | .join => "join"
  | .sidx => "index"
  | .split => "split"
def rBm (K : PySem.W.Frag) (m : Bm) : V → List V → Hp → VK → Prop := fun x xs H Q => ∃ F d f ds d3, Same F H ∧ Ro K F H x d f ∧ Rox K F H xs ds ∧ bmop m d ds = some d3 ∧ Rslt K F H d3 Q
theorem joinS_eq (s : List Nat) : ∀ ys : List (List Nat), TL.joinL s ys = joinS s ys
  | [] => rfl
  | [p] => rfl
  | p :: q :: r => by
    show p ++ (s ++ TL.joinL s (q :: r)) = p ++ (s ++ joinS s (q :: r))
    rw [joinS_eq s (q :: r)]
theorem join_eqS (s : List Nat) (ys : List (List Nat)) : Txt.join ⟨s.toArray⟩ (ys.map fun s => (⟨s.toArray⟩ : Str)) = ⟨(joinS s ys).toArray⟩ := by
  rw [← joinS_eq]
  exact SX.join_S s ys
theorem mt_bm_join : MtR X "str.join" (rBm X.K .join) := by
  intro pins s σ H x xs v us Q I rx rs h
  obtain ⟨F, d, f, ds, d3, sm, rd, ro, hb, rr⟩ := h
  refine mt_join pins s σ H x xs v us Q I rx rs ?_
  cases d <;> simp only [bmop, reduceCtorEq] at hb
  cases ro with
  | nil => simp [bmop] at hb
  | cons r t =>
    cases t with
    | cons _ _ => rename_i d _ _ _ _ _ _; cases d <;> simp [bmop] at hb
    | nil =>
      rename_i d _
      cases d <;> simp only [bmop, reduceCtorEq, Option.bind_eq_some_iff] at hb
      obtain ⟨ys, h1, h2⟩ := hb
      split at h2
      · rename_i hz
        simp only [Option.some.injEq] at h2; subst h2
        obtain ⟨a, ws, g, rfl, sq, ro, ns⟩ := r.lst_inv sm
        rw [strs_of ro h1] at sq
        refine ⟨_, a, _, rd.str_inv, rfl, .inl sq, ?_, ?_⟩
        · have e1 : ((ys.map fun s => (⟨s.toArray⟩ : Str)).map (·.length)).sum = (ys.map (·.length)).sum := by
            rw [List.map_map]
            exact congrArg List.sum (List.map_congr_left fun y _ => str_len y)
          rw [e1, List.length_map, str_len]
          exact hz
        · rw [join_eqS]
          exact rr.1 _ (.str _)
      · cases h2
theorem mt_bm_sidx : MtR X "str.index" (rBm X.K .sidx) := by
  intro pins s σ H x xs v us Q I rx rs h
  obtain ⟨F, d, f, ds, d3, sm, rd, ro, hb, rr⟩ := h
  refine mt_sindex pins s σ H x xs v us Q I rx rs ?_
  cases d <;> simp only [bmop, reduceCtorEq] at hb
  cases ro with
  | nil => simp [bmop] at hb
  | cons r t =>
    cases t with
    | cons _ _ => rename_i d _ _ _ _ _ _; cases d <;> simp [bmop] at hb
    | nil =>
      rename_i d _
      cases d <;> simp only [bmop, reduceCtorEq] at hb
      split at hb
      · rename_i i rest ho
        simp only [Option.some.injEq] at hb; subst hb
        refine ⟨_, _, i, rest, rd.str_inv, congrArg (· :: []) r.str_inv, ?_, rr.1 _ (.int _)⟩
        rw [str_len]
        exact ho
      · cases hb
theorem rfs_strs {K : PySem.W.Frag} {F : Hp} : ∀ ys : List Str, Rfs K F (ys.map V.str) ((ys.map fun s => s.cps.toList).map D.str)
  | [] => .nil
  | y :: ys => by
    have e1 : V.str y = stV y.cps.toList := by unfold stV; simp
    rw [List.map_cons, List.map_cons, List.map_cons, e1]
    exact .cons (.str _) (rfs_strs ys)
theorem mt_bm_split : MtR X "str.split" (rBm X.K .split) := by
  intro pins s σ H x xs v us Q I rx rs h
  obtain ⟨F, d, f, ds, d3, sm, rd, ro, hb, rr⟩ := h
  refine mt_split pins s σ H x xs v us Q I rx rs ?_
  cases d <;> simp only [bmop, reduceCtorEq] at hb
  cases ro with
  | nil => simp [bmop] at hb
  | cons r t =>
    cases t with
    | cons _ _ => rename_i d _ _ _ _ _ _; cases d <;> simp [bmop] at hb
    | nil =>
      rename_i d _
      cases d <;> simp only [bmop, reduceCtorEq] at hb
      split at hb
      · rename_i hl
        simp only [Option.some.injEq] at hb; subst hb
        refine ⟨_, _, rd.str_inv, congrArg (· :: []) r.str_inv, ?_, ?_, ?_⟩
        · rw [str_len]
          rename_i a b
          cases b with
          | nil => exact absurd rfl hl.1
          | cons _ _ => rfl
        · rw [str_len, sizeLine_eq]; omega
        · exact rr.2.1 _ _ rfl (rfs_strs _)
      · cases hb
end
end Z

set_option Elab.async false
set_option linter.all false
set_option maxRecDepth 100000
set_option maxHeartbeats 4000000
/-! Z6: the readings of expressions compute their evaluations. -/
namespace Z
open PySem L2

/-- an argument list: owned values and borrowed ones -/
inductive Rmx (K : PySem.W.Frag) (F H : Hp) : List V → List D → List Addr → Prop
  | nil : Rmx K F H [] [] []
  | own {v : V} {vs : List V} {d : D} {ds : List D} {f fp : List Addr} : Ro K F H v d f → Rmx K F H vs ds fp → Rmx K F H (v :: vs) (d :: ds) (f ++ fp)
  | bor {v : V} {vs : List V} {d : D} {ds : List D} {f fp : List Addr} : Ro K F H v d f → Rmx K F H vs ds fp → Rmx K F H (v :: vs) (d :: ds) fp
def RM (K : PySem.W.Frag) : RR (List D) (List V) := fun F H f v d => Rmx K F H v d f
theorem Rmx.rox {K : PySem.W.Frag} {F H : Hp} : ∀ {v : List V} {d : List D} {f : List Addr}, Rmx K F H v d f → Rox K F H v d
  | _, _, _, .nil => .nil
  | _, _, _, .own r t => .cons r (Rmx.rox t)
  | _, _, _, .bor r t => .cons r (Rmx.rox t)
theorem Rmx.dom {K : PySem.W.Frag} {F H : Hp} : ∀ {v : List V} {d : List D} {fp : List Addr}, Rmx K F H v d fp → ∀ p ∈ fp, H p ≠ none
  | _, _, _, .nil, p, hp => by cases hp
  | _, _, _, .own h r, p, hp => (List.mem_append.mp hp).elim (h.dom p) (Rmx.dom r p)
  | _, _, _, .bor h r, p, hp => Rmx.dom r p hp
theorem Ros.rmx {K : PySem.W.Frag} {F H : Hp} : ∀ {v : List V} {d : List D} {fp : List Addr}, Ros K F H v d fp → Rmx K F H v d fp
  | _, _, _, .nil => .nil
  | _, _, _, .cons h r => .own h (Ros.rmx r)
/-- no borrowed item -/
def noB : LL → Bool
  | .nil => true
  | .cons a r => !isB a && noB r
/-- behind a borrowed item nothing changes -/
def okB : LL → Bool
  | .nil => true
  | .cons a r => (!isB a || pureL r) && okB r
theorem imp_of {a b : Bool} (h : (!a || b) = true) : a = true → b = true := by cases a <;> cases b <;> simp at *

section
variable {C : Cz}
abbrev CE1 (C : Cz) (a : LE) (t : TE) : Prop := Comp C (RV C.K (isB a)) (pureE a) t (evE C.phi a)
theorem comp_bin {o : Bop} {a b : LE} {ta tb : TE} (ha : CE1 C a ta) (hb : CE1 C b tb) (hp : isB a = true → pureE b = true) : CE1 C (.bin o a b) (tOp (rBin C.K o) ta tb) := by
  intro σ H e F fp Q er wd post
  simp only [evE] at post
  refine ha.two hb hp (by simp [pureE]) er wd post fun x y e2 v w F2 H2 f g fp2 g2 w2 er2 r1 r2 pu post2 => ?_
  obtain ⟨f1, ro1⟩ := r1.ro
  obtain ⟨f2, ro2⟩ := r2.ro
  cases hbo : binop o x y with
  | none => rw [hbo] at post2; exact post2.elim
  | some d =>
    rw [hbo] at post2
    exact ⟨F2, x, y, f1, f2, d, w2.ext, ro1, ro2, hbo, Post.rslt (C := C) post2 g2 w2 ((NS.dropL _ _).trans (.dropL _ _)) er2 fun z => by
      simp only [pureE, Bool.and_eq_true] at z
      exact pu z.1 z.2⟩
theorem comp_cmp {o : Cop} {a b : LE} {ta tb : TE} (ha : CE1 C a ta) (hb : CE1 C b tb) (hp : isB a = true → pureE b = true) : CE1 C (.cmp o a b) (tOp (rCmp C.K o) ta tb) := by
  intro σ H e F fp Q er wd post
  simp only [evE] at post
  refine ha.two hb hp (by simp [pureE]) er wd post fun x y e2 v w F2 H2 f g fp2 g2 w2 er2 r1 r2 pu post2 => ?_
  obtain ⟨f1, ro1⟩ := r1.ro
  obtain ⟨f2, ro2⟩ := r2.ro
  simp only [lift_andThen] at post2
  cases hbo : cmpop o x y with
  | none => rw [hbo] at post2; exact post2.elim
  | some d =>
    simp only [hbo] at post2
    exact ⟨F2, x, y, f1, f2, d, w2.ext, ro1, ro2, hbo, Post.retS (C := C) post2 g2 w2 ((NS.dropL _ _).trans (.dropL _ _)) er2 (.bl d) fun z => by
      simp only [pureE, Bool.and_eq_true] at z
      exact pu z.1 z.2⟩
theorem comp_neg {a : LE} {ta : TE} (ha : CE1 C a ta) : CE1 C (.neg a) (tUn (rU fun i => .int (-i)) ta) := by
  intro σ H e F fp Q er wd post
  simp only [evE] at post
  refine ha.bind er wd post fun x e1 v F1 H1 f fp1 g1 w1 er1 r1 pu1 post1 => ?_
  obtain ⟨f1, ro1⟩ := r1.ro
  cases x <;> first | exact post1.elim | skip
  exact ⟨_, ro1.int_inv, Post.retS (C := C) post1 g1 w1 (.dropL _ _) er1 (.int _) pu1⟩
/-- and, or, not, a if t else b: the parts are True or False -/
theorem bl_of {K : PySem.W.Frag} {b : Bool} {F H : Hp} {f : List Addr} {v : V} {c : Bool} (h : RV K b F H f v (.bl c)) : v = .bl c := by
  obtain ⟨f1, r⟩ := h.ro
  exact r.bl_inv
theorem comp_an {a b : LE} {ta tb : TE} (ha : CE1 C a ta) (hb : CE1 C b tb) (hB : isB b = false) : CE1 C (.an a b) (tAndV ta tb) := by
  intro σ H e F fp Q er wd post
  simp only [evE] at post
  refine ha.bind er wd post fun x e1 v F1 H1 f fp1 g1 w1 er1 r1 pu1 post1 => ?_
  cases x <;> first | exact post1.elim | skip
  rename_i c
  refine ⟨c, bl_of r1, ?_⟩
  cases c with
  | false =>
    exact Post.retS (C := C) post1 g1 w1 (.dropL _ _) er1 (.bl _) fun z => by
      simp only [pureE, Bool.and_eq_true] at z
      exact pu1 z.1
  | true =>
    have post1 : Post C (RV C.K (isB (LE.an a b))) (pureE (LE.an a b)) F H fp e σ (evE C.phi b e1) Q := post1
    have eB : isB (LE.an a b) = isB b := by rw [hB]; rfl
    rw [eB] at post1
    exact hb σ H1 e1 F1 fp1 Q er1 (w1.less (.dropL _ _)) (post1.shift g1 w1 r1.dom fun z => by
      simp only [pureE, Bool.and_eq_true] at z
      exact ⟨pu1 z.1, z.2⟩)
theorem comp_orr {a b : LE} {ta tb : TE} (ha : CE1 C a ta) (hb : CE1 C b tb) (hB : isB b = false) : CE1 C (.orr a b) (tOrV ta tb) := by
  intro σ H e F fp Q er wd post
  simp only [evE] at post
  refine ha.bind er wd post fun x e1 v F1 H1 f fp1 g1 w1 er1 r1 pu1 post1 => ?_
  cases x <;> first | exact post1.elim | skip
  rename_i c
  refine ⟨c, bl_of r1, ?_⟩
  cases c with
  | true =>
    exact Post.retS (C := C) post1 g1 w1 (.dropL _ _) er1 (.bl _) fun z => by
      simp only [pureE, Bool.and_eq_true] at z
      exact pu1 z.1
  | false =>
    have post1 : Post C (RV C.K (isB (LE.orr a b))) (pureE (LE.orr a b)) F H fp e σ (evE C.phi b e1) Q := post1
    have eB : isB (LE.orr a b) = isB b := by rw [hB]; rfl
    rw [eB] at post1
    exact hb σ H1 e1 F1 fp1 Q er1 (w1.less (.dropL _ _)) (post1.shift g1 w1 r1.dom fun z => by
      simp only [pureE, Bool.and_eq_true] at z
      exact ⟨pu1 z.1, z.2⟩)
theorem comp_nt {a : LE} {ta : TE} (ha : CE1 C a ta) : CE1 C (.nt a) (tNotV ta) := by
  intro σ H e F fp Q er wd post
  simp only [evE] at post
  refine ha.bind er wd post fun x e1 v F1 H1 f fp1 g1 w1 er1 r1 pu1 post1 => ?_
  cases x <;> first | exact post1.elim | skip
  rename_i c
  exact ⟨c, bl_of r1, Post.retS (C := C) post1 g1 w1 (.dropL _ _) er1 (.bl _) pu1⟩
/-! tests -/
def evT (phi : Nat → List PM → List D → FRes) (a : LE) (e : Env) : Res Bool := (evE phi a e).andThen fun x e => match x with
  | .bl b => .ok b e
  | _ => .bad
abbrev CT1 (C : Cz) (a : LE) (t : TT) : Prop := Comp C RQ (pureE a) t (evT C.phi a)
theorem ct_val {a : LE} {t : TE} (h : CE1 C a t) : CT1 C a (tTest t) := by
  intro σ H e F fp Q er wd post
  unfold evT at post
  refine h.bind er wd post fun x e1 v F1 H1 f fp1 g1 w1 er1 r1 pu1 post1 => ?_
  cases x <;> first | exact post1.elim | skip
  rename_i c
  exact ⟨c, bl_of r1, post1 c F1 H1 [] fp1 (g1.less fun q hq => List.mem_append_right _ hq) (w1.less (.dropL _ _)) er1 ⟨rfl, rfl⟩ pu1⟩
theorem ct_B {a : LE} {t : TE} (h : CE1 C a t) : CT1 C a (tB t) := ct_val h
theorem evT_an {phi : Nat → List PM → List D → FRes} {a b : LE} {e : Env} : evT phi (.an a b) e = (evT phi a e).andThen fun c e => if c = true then evT phi b e else .ok false e := by
  unfold evT
  simp only [evE]
  cases h : evE phi a e with
  | bad => rfl
  | xc c d e' => rfl
  | ok x e' =>
    cases x <;> first | rfl | skip
    rename_i c
    cases c <;> rfl
theorem evT_orr {phi : Nat → List PM → List D → FRes} {a b : LE} {e : Env} : evT phi (.orr a b) e = (evT phi a e).andThen fun c e => if c = true then .ok true e else evT phi b e := by
  unfold evT
  simp only [evE]
  cases h : evE phi a e with
  | bad => rfl
  | xc c d e' => rfl
  | ok x e' =>
    cases x <;> first | rfl | skip
    rename_i c
    cases c <;> rfl
theorem evT_nt {phi : Nat → List PM → List D → FRes} {a : LE} {e : Env} : evT phi (.nt a) e = (evT phi a e).andThen fun c e => .ok (!c) e := by
  unfold evT
  simp only [evE]
  cases h : evE phi a e with
  | bad => rfl
  | xc c d e' => rfl
  | ok x e' =>
    cases x <;> first | rfl | skip
theorem evE_ite {phi : Nat → List PM → List D → FRes} {c a b : LE} {e : Env} : evE phi (.ite c a b) e = (evT phi c e).andThen fun x e => if x = true then evE phi a e else evE phi b e := by
  unfold evT
  simp only [evE]
  cases h : evE phi c e with
  | bad => rfl
  | xc c d e' => rfl
  | ok x e' =>
    cases x <;> first | rfl | skip
    rename_i c
    cases c <;> rfl
theorem rq_dom {α : Type} {F H : Hp} {f : List Addr} {v d : α} (h : RQ F H f v d) : ∀ q ∈ f, H q ≠ none := by
  rw [h.1]; intro q hq; cases hq
theorem ct_an {a b : LE} {ta tb : TT} (ha : CT1 C a ta) (hb : CT1 C b tb) : CT1 C (.an a b) (tAnd ta tb) := by
  intro σ H e F fp Q er wd post
  rw [evT_an] at post
  refine ha.bind er wd post fun x e1 v F1 H1 f fp1 g1 w1 er1 r1 pu1 post1 => ?_
  obtain ⟨hf, rfl⟩ := id r1
  cases v with
  | false =>
    rw [if_neg (by decide)] at post1 ⊢
    exact post1 false F1 H1 [] fp1 (g1.less fun q hq => List.mem_append_right _ hq) (w1.less (.dropL _ _)) er1 ⟨rfl, rfl⟩ fun z => by
      simp only [pureE, Bool.and_eq_true] at z
      exact pu1 z.1
  | true =>
    rw [if_pos rfl] at post1 ⊢
    exact hb σ H1 e1 F1 fp1 Q er1 (w1.less (.dropL _ _)) (post1.shift g1 w1 (rq_dom r1) fun z => by
      simp only [pureE, Bool.and_eq_true] at z
      exact ⟨pu1 z.1, z.2⟩)
theorem ct_orr {a b : LE} {ta tb : TT} (ha : CT1 C a ta) (hb : CT1 C b tb) : CT1 C (.orr a b) (tOr ta tb) := by
  intro σ H e F fp Q er wd post
  rw [evT_orr] at post
  refine ha.bind er wd post fun x e1 v F1 H1 f fp1 g1 w1 er1 r1 pu1 post1 => ?_
  obtain ⟨hf, rfl⟩ := id r1
  cases v with
  | true =>
    rw [if_pos rfl] at post1 ⊢
    exact post1 true F1 H1 [] fp1 (g1.less fun q hq => List.mem_append_right _ hq) (w1.less (.dropL _ _)) er1 ⟨rfl, rfl⟩ fun z => by
      simp only [pureE, Bool.and_eq_true] at z
      exact pu1 z.1
  | false =>
    rw [if_neg (by decide)] at post1 ⊢
    exact hb σ H1 e1 F1 fp1 Q er1 (w1.less (.dropL _ _)) (post1.shift g1 w1 (rq_dom r1) fun z => by
      simp only [pureE, Bool.and_eq_true] at z
      exact ⟨pu1 z.1, z.2⟩)
theorem ct_nt {a : LE} {ta : TT} (ha : CT1 C a ta) : CT1 C (.nt a) (tNot ta) := by
  intro σ H e F fp Q er wd post
  rw [evT_nt] at post
  refine ha.bind er wd post fun x e1 v F1 H1 f fp1 g1 w1 er1 r1 pu1 post1 => ?_
  obtain ⟨hf, rfl⟩ := id r1
  exact post1 (!v) F1 H1 [] fp1 (g1.less fun q hq => List.mem_append_right _ hq) (w1.less (.dropL _ _)) er1 ⟨rfl, rfl⟩ pu1
theorem comp_ite {c a b : LE} {tc : TT} {ta tb : TE} (hc : CT1 C c tc) (ha : CE1 C a ta) (hb : CE1 C b tb) (hA : isB a = false) (hB : isB b = false) : CE1 C (.ite c a b) (tIf tc ta tb) := by
  intro σ H e F fp Q er wd post
  rw [evE_ite] at post
  refine hc.bind er wd post fun x e1 v F1 H1 f fp1 g1 w1 er1 r1 pu1 post1 => ?_
  obtain ⟨hf, rfl⟩ := id r1
  cases v with
  | true =>
    rw [if_pos rfl] at post1 ⊢
    have eB : isB (LE.ite c a b) = isB a := by rw [hA]; rfl
    rw [eB] at post1
    exact ha σ H1 e1 F1 fp1 Q er1 (w1.less (.dropL _ _)) (post1.shift g1 w1 (rq_dom r1) fun z => by
      simp only [pureE, Bool.and_eq_true] at z
      exact ⟨pu1 z.1.1, z.1.2⟩)
  | false =>
    rw [if_neg (by decide)] at post1 ⊢
    have eB : isB (LE.ite c a b) = isB b := by rw [hB]; rfl
    rw [eB] at post1
    exact hb σ H1 e1 F1 fp1 Q er1 (w1.less (.dropL _ _)) (post1.shift g1 w1 (rq_dom r1) fun z => by
      simp only [pureE, Bool.and_eq_true] at z
      exact ⟨pu1 z.1.1, z.2⟩)
/-! a chain a o b p c -/
theorem comp_chn {o p : Cop} {a b c : LE} {ta tb tc : TE} (ha : CE1 C a ta) (hb : CE1 C b tb) (hc : CE1 C c tc) (h1 : isB a = false) (h2 : isB b = false) : CE1 C (.chn o p a b c) (tChain (rCmp C.K o) (rCmp C.K p) ta tb tc) := by
  intro σ H e F fp Q er wd post
  simp only [evE] at post
  refine ha.two hb (fun z => by rw [h1] at z; cases z) (by simp [pureE]; intro x y _; exact ⟨x, y⟩) er wd post fun x y e2 v w F2 H2 f g fp2 g2 w2 er2 r1 r2 pu post2 => ?_
  obtain ⟨f1, ro1⟩ := r1.ro
  obtain ⟨f2, ro2⟩ := r2.ro
  simp only [lift_andThen] at post2
  cases hbo : cmpop o x y with
  | none => rw [hbo] at post2; exact post2.elim
  | some r =>
    simp only [hbo] at post2
    refine ⟨F2, x, y, f1, f2, r, w2.ext, ro1, ro2, hbo, r, rfl, ?_⟩
    cases r with
    | false =>
      rw [if_neg (by decide)]
      have post2 : Post C (RV C.K false) (pureE (LE.chn o p a b c)) F H fp e σ (.ok (.bl false) e2) Q := post2
      exact Post.retS (C := C) post2 g2 w2 ((NS.dropL _ _).trans (.dropL _ _)) er2 (.bl _) fun z => by
        simp only [pureE, Bool.and_eq_true] at z
        exact pu z.1.1 z.1.2
    | true =>
      rw [if_pos rfl]
      rw [if_pos rfl] at post2
      have dm : ∀ q ∈ f ++ g, H2 q ≠ none := fun q hq => (List.mem_append.mp hq).elim (r1.dom q) (r2.dom q)
      rw [← List.append_assoc] at g2 w2
      have ps := post2.shift (p' := pureE c) (e1 := e2) g2 w2 dm fun z => by
        simp only [pureE, Bool.and_eq_true] at z
        exact ⟨pu z.1.1 z.1.2, z.2⟩
      refine hc σ H2 e2 F2 fp2 _ er2 (w2.less (.dropL _ _)) ?_
      cases hv : evE C.phi c e2 with
      | bad => rw [hv] at ps; exact ps
      | xc c' d' e' => rw [hv] at ps; exact ps
      | ok z e3 =>
        rw [hv] at ps
        intro u F3 H3 k fp3 g3 w3 er3 r3 pu3
        obtain ⟨f3, ro3⟩ := r3.ro
        obtain ⟨gf, wf, st⟩ := g3.frame w2 dm w3
        have ro2' : Ro C.K F2 H2 w y g := by rw [h2] at r2; exact r2
        have ro2'' := ro2'.mono g3.ext fun q hq => st q (List.mem_append_right _ hq)
        simp only [Res.andThen] at ps
        cases hbo2 : cmpop p y z with
        | none => simp only [hbo2] at ps; exact ps.elim
        | some r =>
          simp only [hbo2] at ps
          exact ⟨F3, y, z, g, f3, r, w3.ext, ro2'', ro3, hbo2, Post.retS (C := C) ps g3 w3 (.dropL _ _) er3 (.bl _) pu3⟩
/-! items, slices -/
theorem comp_ix {a b : LE} {ta tb : TE} (ha : CE1 C a ta) (hb : CE1 C b tb) (hp : isB a = true → pureE b = true) : CE1 C (.ix a b) (tOp (rIxD C.K) ta tb) := by
  intro σ H e F fp Q er wd post
  simp only [evE] at post
  refine ha.two hb hp (by simp [pureE]) er wd post fun x y e2 v w F2 H2 f g fp2 g2 w2 er2 r1 r2 pu post2 => ?_
  obtain ⟨f2, ro2⟩ := r2.ro
  cases hbo : ixD x y with
  | none => rw [hbo] at post2; exact post2.elim
  | some d =>
    rw [hbo] at post2
    have pu' : pureE (LE.ix a b) = true → Same H H2 ∧ e2 = e := fun z => by
      simp only [pureE, Bool.and_eq_true] at z
      exact pu z.1 z.2
    cases hB : isB a with
    | true =>
      rw [hB] at r1
      obtain ⟨hf, f1, ro1⟩ := (show f = [] ∧ ∃ f', Ro C.K F2 H2 v x f' from r1)
      refine ⟨F2, x, y, f1, f2, d, w2.ext, ro1, ro2, hbo, fun u k rk nk => ?_⟩
      have eB : isB (LE.ix a b) = true := hB
      rw [eB] at post2
      exact post2 u F2 H2 [] fp2 (g2.less fun q hq => List.mem_append_right _ (List.mem_append_right _ hq)) (w2.less ((NS.dropL _ _).trans (.dropL _ _))) er2 ⟨rfl, k, rk⟩ pu'
    | false =>
      rw [hB] at r1
      refine ⟨F2, x, y, f, f2, d, w2.ext, r1, ro2, hbo, fun u k rk nk => ?_⟩
      have eB : isB (LE.ix a b) = false := hB
      rw [eB] at post2
      refine Post.ret (C := C) (f := k) (fp' := fp2) post2 g2 w2 ?_ er2 rk pu'
      exact (nk.right fp2).trans ((NS.dropL g fp2).left f)
theorem comp_sl {a : LE} {lo hi : LO} {ta : TE} {tl th : TO} (ha : CE1 C a ta) (hl : Comp C RQ (pureO lo) tl (evO C.phi lo)) (hh : Comp C RQ (pureO hi) th (evO C.phi hi)) (hA : isB a = false) : CE1 C (.sl a lo hi) (tSl (rSlD C.K) ta tl th) := by
  intro σ H e F fp Q er wd post
  simp only [evE] at post
  refine ha.bind er wd post fun x e1 v F1 H1 f fp1 g1 w1 er1 r1 pu1 post1 => ?_
  rw [hA] at r1
  have ps1 := post1.shift (p' := true) (e1 := e1) (f := f) (fp1 := fp1) g1 w1 r1.dom
  refine hl σ H1 e1 F1 fp1 _ er1 (w1.less (.dropL _ _)) ?_
  cases hv : evO C.phi lo e1 with
  | bad => rw [hv] at post1; exact post1
  | xc c d e' =>
    rw [hv] at post1
    intro F' H' fp' cls dx g' w' er' x'
    obtain ⟨g2, w2, _⟩ := g'.frame w1 r1.dom w'
    exact post1 F' H' fp' cls dx ((g1.trans g2).less fun q hq => List.mem_append_right _ hq) w' er' x'
  | ok l e2 =>
    rw [hv] at post1
    intro lv F2 H2 fl fp2 g2 w2 er2 r2 pu2
    obtain ⟨hfl, rfl⟩ := id r2
    subst hfl
    obtain ⟨gf, wf, st⟩ := g2.frame w1 r1.dom w2
    have ro2 := (show Ro C.K F1 H1 v x f from r1).mono g2.ext st
    have post2 : Post C (RV C.K false) (pureE (LE.sl a lo hi)) F H fp e σ ((evO C.phi hi e2).andThen fun h e => lift (slD x lv h) e) Q := post1
    refine hh σ H2 e2 F2 fp2 _ er2 w2 ?_
    cases hv2 : evO C.phi hi e2 with
    | bad => rw [hv2] at post2; exact post2
    | xc c d e' =>
      rw [hv2] at post2
      intro F' H' fp' cls dx g' w' er' x'
      obtain ⟨g3, w3, _⟩ := g'.frame wf ro2.dom w'
      exact post2 F' H' fp' cls dx (((g1.trans gf).trans g3).less fun q hq => List.mem_append_right _ hq) w' er' x'
    | ok h e3 =>
      rw [hv2] at post2
      intro hv' F3 H3 fh fp3 g3 w3 er3 r3 pu3
      obtain ⟨hfh, rfl⟩ := id r3
      subst hfh
      obtain ⟨gf3, wf3, st3⟩ := g3.frame wf ro2.dom w3
      have ro3 := ro2.mono g3.ext st3
      have post3 : Post C (RV C.K false) (pureE (LE.sl a lo hi)) F H fp e σ (lift (slD x lv hv') e3) Q := post2
      cases hbo : slD x lv hv' with
      | none => rw [hbo] at post3; exact post3.elim
      | some d =>
        rw [hbo] at post3
        exact ⟨F3, x, f, d, w3.ext, ro3, hbo, Post.rslt (C := C) post3 ((g1.trans gf).trans gf3) wf3 (.dropL _ _) er3 fun z => by
          simp only [pureE, Bool.and_eq_true] at z
          obtain ⟨s1, q1⟩ := pu1 z.1.1
          obtain ⟨s2, q2⟩ := pu2 z.1.2
          obtain ⟨s3, q3⟩ := pu3 z.2
          exact ⟨(s1.trans s2).trans s3, (q3.trans q2).trans q1⟩⟩
theorem co_no : Comp C RQ (pureO .no) tNoPart (evO C.phi .no) := by
  intro σ H e F fp Q er wd post
  simp only [evO] at post
  exact post none F H [] fp (.refl F H fp) wd er ⟨rfl, rfl⟩ fun _ => ⟨.refl _, rfl⟩
theorem co_so {a : LE} {ta : TE} (ha : CE1 C a ta) : Comp C RQ (pureO (.so a)) (tPart ta) (evO C.phi (.so a)) := by
  intro σ H e F fp Q er wd post
  simp only [evO] at post
  refine ha.bind er wd post fun x e1 v F1 H1 f fp1 g1 w1 er1 r1 pu1 post1 => ?_
  obtain ⟨f1, ro1⟩ := r1.ro
  cases x <;> first | exact post1.elim | skip
  exact ⟨_, ro1.int_inv, post1 _ F1 H1 [] fp1 (g1.less fun q hq => List.mem_append_right _ hq) (w1.less (.dropL _ _)) er1 ⟨rfl, rfl⟩ pu1⟩
/-! lists of expressions -/
theorem cl_nil : Comp C (RM C.K) (pureL .nil) tNil (evL C.phi .nil) := by
  intro σ H e F fp Q er wd post
  simp only [evL] at post
  exact post [] F H [] fp (.refl F H fp) wd er .nil fun _ => ⟨.refl _, rfl⟩
theorem cl_cons {a : LE} {r : LL} {ta : TE} {tr : TA} (ha : CE1 C a ta) (hr : Comp C (RM C.K) (pureL r) tr (evL C.phi r)) (hp : isB a = true → pureL r = true) : Comp C (RM C.K) (pureL (.cons a r)) (tCons ta tr) (evL C.phi (.cons a r)) := by
  intro σ H e F fp Q er wd post
  simp only [evL] at post
  refine ha.bind er wd post fun x e1 v F1 H1 f fp1 g1 w1 er1 r1 pu1 post1 => ?_
  refine hr σ H1 e1 F1 fp1 _ er1 (w1.less (.dropL _ _)) ?_
  cases hv : evL C.phi r e1 with
  | bad => rw [hv] at post1; exact post1
  | xc c d e' =>
    rw [hv] at post1
    intro F' H' fp' cls dx g' w' er' x'
    obtain ⟨g2, w2, _⟩ := g'.frame w1 r1.dom w'
    exact post1 F' H' fp' cls dx ((g1.trans g2).less fun q hq => List.mem_append_right _ hq) w' er' x'
  | ok xs e2 =>
    rw [hv] at post1
    intro vs F2 H2 g fp2 g2 w2 er2 r2 pu2
    obtain ⟨gf, wf, st⟩ := g2.frame w1 r1.dom w2
    have post2 : Post C (RM C.K) (pureL (.cons a r)) F H fp e σ (.ok (x :: xs) e2) Q := post1
    have pu : pureL (.cons a r) = true → Same H H2 ∧ e2 = e := fun z => by
      simp only [pureL, Bool.and_eq_true] at z
      obtain ⟨s1, q1⟩ := pu1 z.1
      obtain ⟨s2, q2⟩ := pu2 z.2
      exact ⟨s1.trans s2, q2.trans q1⟩
    cases hB : isB a with
    | true =>
      rw [hB] at r1
      obtain ⟨hf, f1, ro1⟩ := (show f = [] ∧ ∃ f', Ro C.K F1 H1 v x f' from r1)
      subst hf
      obtain ⟨sm, _⟩ := pu2 (hp hB)
      refine post2 (v :: vs) F2 H2 g fp2 (g1.trans gf) wf er2 (.bor (f := f1) (ro1.mono g2.ext fun q hq => ?_) r2) pu
      cases hq1 : H1 q with
      | none => exact absurd hq1 (ro1.dom q hq)
      | some o => exact sm q o hq1
    | false =>
      rw [hB] at r1
      refine post2 (v :: vs) F2 H2 (f ++ g) fp2 (by rw [List.append_assoc]; exact g1.trans gf) (by rw [List.append_assoc]; exact wf) er2 (.own ((show Ro C.K F1 H1 v x f from r1).mono g2.ext st) r2) pu
/-- without borrowed items -/
theorem cl_own {K : PySem.W.Frag} {F H : Hp} : ∀ {v : List V} {d : List D} {f : List Addr}, Rmx K F H v d f → (∀ p ∈ f, True) → True := fun _ _ => trivial
def RL2 (K : PySem.W.Frag) : RR (List D) (List V) := fun F H f v d => Ros K F H v d f
theorem cl2_nil : Comp C (RL2 C.K) (pureL .nil) tNil (evL C.phi .nil) := by
  intro σ H e F fp Q er wd post
  simp only [evL] at post
  exact post [] F H [] fp (.refl F H fp) wd er .nil fun _ => ⟨.refl _, rfl⟩
theorem cl2_cons {a : LE} {r : LL} {ta : TE} {tr : TA} (ha : CE1 C a ta) (hr : Comp C (RL2 C.K) (pureL r) tr (evL C.phi r)) (hB : isB a = false) : Comp C (RL2 C.K) (pureL (.cons a r)) (tCons ta tr) (evL C.phi (.cons a r)) := by
  intro σ H e F fp Q er wd post
  simp only [evL] at post
  refine ha.bind er wd post fun x e1 v F1 H1 f fp1 g1 w1 er1 r1 pu1 post1 => ?_
  refine hr σ H1 e1 F1 fp1 _ er1 (w1.less (.dropL _ _)) ?_
  cases hv : evL C.phi r e1 with
  | bad => rw [hv] at post1; exact post1
  | xc c d e' =>
    rw [hv] at post1
    intro F' H' fp' cls dx g' w' er' x'
    obtain ⟨g2, w2, _⟩ := g'.frame w1 r1.dom w'
    exact post1 F' H' fp' cls dx ((g1.trans g2).less fun q hq => List.mem_append_right _ hq) w' er' x'
  | ok xs e2 =>
    rw [hv] at post1
    intro vs F2 H2 g fp2 g2 w2 er2 r2 pu2
    obtain ⟨gf, wf, st⟩ := g2.frame w1 r1.dom w2
    have post2 : Post C (RL2 C.K) (pureL (.cons a r)) F H fp e σ (.ok (x :: xs) e2) Q := post1
    rw [hB] at r1
    exact post2 (v :: vs) F2 H2 (f ++ g) fp2 (by rw [List.append_assoc]; exact g1.trans gf) (by rw [List.append_assoc]; exact wf) er2 (.cons ((show Ro C.K F1 H1 v x f from r1).mono g2.ext st) r2) fun z => by
      simp only [pureL, Bool.and_eq_true] at z
      obtain ⟨s1, q1⟩ := pu1 z.1
      obtain ⟨s2, q2⟩ := pu2 z.2
      exact ⟨s1.trans s2, q2.trans q1⟩
/-! displays -/
theorem comp_tup {es : LL} {t : TA} (h : Comp C (RL2 C.K) (pureL es) t (evL C.phi es)) : CE1 C (.tup es) (tTup t) := by
  intro σ H e F fp Q er wd post
  simp only [evE] at post
  refine h.bind er wd post fun xs e1 vs F1 H1 f fp1 g1 w1 er1 r1 pu1 post1 => ?_
  have ro : Ros C.K F1 H1 vs xs f := r1
  by_cases hz : xs.length ≤ sizeL
  · rw [if_pos hz] at post1
    refine ⟨by rw [ro.len, ← sizeL_eq]; exact hz, fun p hp => ?_⟩
    have dm : ∀ q ∈ f ++ fp1, H1 q ≠ none := fun q hq => (List.mem_append.mp hq).elim (ro.dom q) (er1.dom q)
    have ne : ∀ q, H1 q ≠ none → upd H1 p (.tup vs) q = H1 q := fun q hq => upd_ne fun z => hq (by rw [z]; exact hp)
    refine Post.ret (C := C) (f := p :: f) (fp' := fp1) post1 (g1.trans (Go.new hp)) (w1.new hp dm) (.refl _) (er1.mono (.refl _) (fun q hq => ne q (w1.lent q hq).2.2) fun q hq => ne q (er1.dom q hq)) (.tup upd_same (ro.mono (.refl _) fun q hq => ne q (ro.dom q hq))) fun z => ?_
    obtain ⟨s1, q1⟩ := pu1 z
    exact ⟨s1.trans fun a o ha => by rw [ne a (by rw [ha]; intro z; cases z)]; exact ha, q1⟩
  · rw [if_neg hz] at post1; exact post1.elim
theorem comp_lst {es : LL} {t : TA} (h : Comp C (RL2 C.K) (pureL es) t (evL C.phi es)) : CE1 C (.lst es) (tLst t) := by
  intro σ H e F fp Q er wd post
  simp only [evE] at post
  refine h.bind er wd post fun xs e1 vs F1 H1 f fp1 g1 w1 er1 r1 pu1 post1 => ?_
  have ro : Ros C.K F1 H1 vs xs f := r1
  by_cases hz : xs.length ≤ sizeL
  · rw [if_pos hz] at post1
    refine ⟨by rw [ro.len, ← sizeL_eq]; exact hz, fun p hp => ?_⟩
    have dm : ∀ q ∈ f ++ fp1, H1 q ≠ none := fun q hq => (List.mem_append.mp hq).elim (ro.dom q) (er1.dom q)
    have ne : ∀ q, H1 q ≠ none → upd H1 p (.lst vs) q = H1 q := fun q hq => upd_ne fun z => hq (by rw [z]; exact hp)
    refine Post.ret (C := C) (f := p :: f) (fp' := fp1) post1 (g1.trans (Go.new hp)) (w1.new hp dm) (.refl _) (er1.mono (.refl _) (fun q hq => ne q (w1.lent q hq).2.2) fun q hq => ne q (er1.dom q hq)) (.lst upd_same (ro.mono (.refl _) fun q hq => ne q (ro.dom q hq))) fun z => ?_
    obtain ⟨s1, q1⟩ := pu1 z
    exact ⟨s1.trans fun a o ha => by rw [ne a (by rw [ha]; intro z; cases z)]; exact ha, q1⟩
  · rw [if_neg hz] at post1; exact post1.elim
/-! built-in functions -/
theorem comp_bi {o : Bi} {es : LL} {t : TA} (h : Comp C (RM C.K) (pureL es) t (evL C.phi es)) : CE1 C (.bi o es) (tCB (rBi C.K o) t) := by
  intro σ H e F fp Q er wd post
  simp only [evE] at post
  refine h.bind er wd post fun xs e1 vs F1 H1 f fp1 g1 w1 er1 r1 pu1 post1 => ?_
  have rm : Rmx C.K F1 H1 vs xs f := r1
  cases hbo : biop o xs with
  | none => rw [hbo] at post1; exact post1.elim
  | some d =>
    rw [hbo] at post1
    exact ⟨F1, xs, d, w1.ext, rm.rox, hbo, Post.rslt (C := C) post1 g1 w1 (.dropL _ _) er1 pu1⟩
/-! x[::-1] -/
theorem comp_rev {a : LE} {ta : TE} (ha : CE1 C a ta) : CE1 C (.rev a) (tRevT C.K ta) := by
  intro σ H e F fp Q er wd post
  simp only [evE] at post
  refine ha.bind er wd post fun x e1 v F1 H1 f fp1 g1 w1 er1 r1 pu1 post1 => ?_
  obtain ⟨f1, ro1⟩ := r1.ro
  cases hb : revD x with
  | none => rw [hb] at post1; exact post1.elim
  | some d =>
    rw [hb] at post1
    exact rev_of w1.ext ro1 hb (Post.rslt (C := C) post1 g1 w1 (.dropL _ _) er1 pu1)
/-! a display of texts, looked up -/
theorem comp_dlk {ps : List (List Nat × List Nat)} {a : LE} {ta : TE} (ha : CE1 C a ta) (hB : isB a = false) : CE1 C (.dlk ps a) (tDlk ps ta) := by
  intro σ H e F fp Q er wd post
  simp only [evE] at post
  intro p hp
  have dom := er.dom
  have ne : ∀ q, H q ≠ none → q ≠ p := fun q h z => h (z ▸ hp)
  have wn := wd.new (o := .dK (dlK ps)) hp dom
  have gn : Go F H fp F (upd H p (.dK (dlK ps))) (p :: fp) := Go.new hp
  have wf : Wd (glue F (upd H p (.dK (dlK ps))) [p]) (upd H p (.dK (dlK ps))) fp C.fb := Wd.freeze (f := [p]) (rest := fp) wn
  have gf : Go F (upd H p (.dK (dlK ps))) (p :: fp) (glue F (upd H p (.dK (dlK ps))) [p]) (upd H p (.dK (dlK ps))) fp := Go.freeze (f := [p]) (rest := fp) (fun q h => h) fun q hq => wn.un q (by rw [List.mem_singleton.mp hq]; exact List.mem_cons_self ..)
  have g1 := gn.trans gf
  have er1 := er.mono g1.ext (fun q hq => upd_ne (o := .dK (dlK ps)) (ne q (wd.lent q hq).2.2)) (fun q hq => upd_ne (ne q (dom q hq)))
  have ps1 := post.shift (p' := false) (f := []) (fp1 := fp) (e1 := e) g1 wf (fun q hq => by cases hq) fun z => by simp [pureE] at z
  refine ha.bind er1 wf ps1 fun x e1 v F2 H2 f fp1 g2 w2 er2 r2 pu2 post2 => ?_
  rw [hB] at r2
  cases hd : dlkD ps x with
  | none => rw [hd] at post2; exact post2.elim
  | some d =>
    rw [hd] at post2
    cases x <;> simp only [dlkD, reduceCtorEq] at hd
    rename_i k
    cases hk : lkS ps k none with
    | none => rw [hk] at hd; cases hd
    | some s =>
      rw [hk] at hd
      simp only [Option.map_some, Option.some.injEq] at hd
      subst hd
      obtain ⟨rf, rfl⟩ := (RV.own r2).scal rfl
      obtain rfl := rf.str_inv
      have hp2 : H2 p = some (.dK (dlK ps)) := g2.keep p _ upd_same fun z => dom p z hp
      have hv := valV_lk k ps [] none rfl
      rw [hk] at hv
      have dg := DGet.k (k := .inr ⟨k.toArray⟩) hp2
      have hv' : valV (dlK ps) (.inr ⟨k.toArray⟩) = some (stV s) := hv
      rw [hv'] at dg
      exact ⟨p, stV s, rfl, dg, post2 (stV s) F2 H2 [] fp1 g2 w2 er2 (RV.scal (.frz (.str s))) fun z => by cases z⟩
/-! an f-string of three parts -/
theorem str_app0 (s : List Nat) : Str.empty ++ (⟨s.toArray⟩ : Str) = ⟨s.toArray⟩ := str_app [] s
theorem fmt_of {K : PySem.W.Frag} {F H : Hp} {v : V} {x : D} {f : List Addr} {s : List Nat} (ro : Ro K F H v x f) (h : fmtD x = some s) : f = [] ∧ s.length ≤ 1000000 ∧ ∀ Q : V → Hp → Prop, Q (stV s) H → (∃ y : Str, v = .str y ∧ y.length ≤ sizeLine ∧ Q (.str y) H) ∨ ∃ i : Int, v = .int i ∧ i.natAbs.log2 < 1920 ∧ Q (.str (toString i)) H := by
  cases x <;> simp only [fmtD, reduceCtorEq] at h
  case str a =>
    split at h
    · rename_i hl
      simp only [Option.some.injEq] at h; subst h
      obtain ⟨rf, rfl⟩ := ro.scal rfl
      exact ⟨rfl, hl, fun Q q => .inl ⟨_, rf.str_inv, by rw [str_len, sizeLine_eq]; omega, q⟩⟩
    · cases h
  case int i =>
    split at h
    · rename_i hl
      simp only [Option.some.injEq] at h; subst h
      obtain ⟨rf, rfl⟩ := ro.scal rfl
      refine ⟨rfl, hl.2, fun Q q => .inr ⟨_, rf.int_inv, by have := hl.1; unfold bits at this; omega, ?_⟩⟩
      unfold stV strI at q
      simpa using q
    · cases h
def tFs3 (ta tb tc : TE) : TE := fun σ H Q => tJs [tFmt ta, tFmt tb, tFmt tc] Str.empty σ H fun out H1 => Q (.str out) H1
theorem comp_fs3 {a b c : LE} {ta tb tc : TE} (ha : CE1 C a ta) (hb : CE1 C b tb) (hc : CE1 C c tc) (hA : isB a = false) (hB : isB b = false) (hC : isB c = false) : CE1 C (.fs3 a b c) (tFs3 ta tb tc) := by
  intro σ H e F fp Q er wd post
  simp only [evE] at post
  refine ha.bind er wd post fun x e1 v F1 H1 f fp1 g1 w1 er1 r1 pu1 post1 => ?_
  rw [hA] at r1
  cases h1 : fmtD x with
  | none => rw [h1] at post1; exact post1.elim
  | some s1 =>
    rw [h1] at post1
    obtain ⟨rfl, l1, k1⟩ := fmt_of (RV.own r1) h1
    refine k1 (fun x H1 => ∃ y : Str, x = .str y ∧ (Str.empty ++ y).length ≤ sizeLine ∧ tJs [tFmt tb, tFmt tc] (Str.empty ++ y) σ H1 fun out H1 => Q (.str out) H1) ?_
    refine ⟨⟨s1.toArray⟩, rfl, by rw [str_app0]; rw [str_len, sizeLine_eq]; omega, ?_⟩
    have post1 : Post C (RV C.K (isB (.fs3 a b c))) (pureE (.fs3 a b c)) F H fp e σ ((evE C.phi b e1).andThen fun y e => (lift (fmtD y) e).andThen fun s2 e => (evE C.phi c e).andThen fun z e => (lift (fmtD z) e).andThen fun s3 e => .ok (.str (s1 ++ (s2 ++ s3))) e) Q := post1
    have ps1 := post1.shift (p' := false) (f := []) (e1 := e1) g1 w1 (fun q hq => by cases hq) fun z => by simp [pureE] at z
    refine hb.bind er1 (w1.less (.dropL _ _)) ps1 fun y e2 v2 F2 H2 f2 fp2 g2 w2 er2 r2 pu2 post2 => ?_
    rw [hB] at r2
    cases h2 : fmtD y with
    | none => rw [h2] at post2; exact post2.elim
    | some s2 =>
      rw [h2] at post2
      obtain ⟨rfl, l2, k2⟩ := fmt_of (RV.own r2) h2
      refine k2 (fun x H1 => ∃ y : Str, x = .str y ∧ ((Str.empty ++ ⟨s1.toArray⟩) ++ y).length ≤ sizeLine ∧ tJs [tFmt tc] ((Str.empty ++ ⟨s1.toArray⟩) ++ y) σ H1 fun out H1 => Q (.str out) H1) ?_
      refine ⟨⟨s2.toArray⟩, rfl, by rw [str_app0, str_app]; rw [str_len, sizeLine_eq, List.length_append]; omega, ?_⟩
      have post2 : Post C (RV C.K (isB (.fs3 a b c))) false F1 H1 fp1 e1 σ ((evE C.phi c e2).andThen fun z e => (lift (fmtD z) e).andThen fun s3 e => .ok (.str (s1 ++ (s2 ++ s3))) e) Q := post2
      have ps2 := post2.shift (p' := false) (f := []) (e1 := e2) g2 w2 (fun q hq => by cases hq) fun z => by cases z
      refine hc.bind er2 (w2.less (.dropL _ _)) ps2 fun z e3 v3 F3 H3 f3 fp3 g3 w3 er3 r3 pu3 post3 => ?_
      rw [hC] at r3
      cases h3 : fmtD z with
      | none => rw [h3] at post3; exact post3.elim
      | some s3 =>
        rw [h3] at post3
        obtain ⟨rfl, l3, k3⟩ := fmt_of (RV.own r3) h3
        refine k3 (fun x H1 => ∃ y : Str, x = .str y ∧ (((Str.empty ++ ⟨s1.toArray⟩) ++ ⟨s2.toArray⟩) ++ y).length ≤ sizeLine ∧ tJs [] (((Str.empty ++ ⟨s1.toArray⟩) ++ ⟨s2.toArray⟩) ++ y) σ H1 fun out H1 => Q (.str out) H1) ?_
        refine ⟨⟨s3.toArray⟩, rfl, by rw [str_app0, str_app, str_app]; rw [str_len, sizeLine_eq, List.length_append, List.length_append]; omega, ?_⟩
        show Q (.str _) H3
        rw [str_app0, str_app, str_app, List.append_assoc]
        exact post3 (stV (s1 ++ (s2 ++ s3))) F3 H3 [] fp3 g3 w3 er3 (RV.scal (.frz (.str _))) fun z => by cases z
/-! methods of values -/
theorem Rmx.mono {K : PySem.W.Frag} {F F' H H' : Hp} (e : Same F F') (s : Same H H') : ∀ {v : List V} {d : List D} {f : List Addr}, Rmx K F H v d f → Rmx K F' H' v d f
  | _, _, _, .nil => .nil
  | _, _, _, .own h r => .own (h.mono e fun p hp => by
      cases q : H p with
      | none => exact absurd q (h.dom p hp)
      | some o => exact s p o q) (Rmx.mono e s r)
  | _, _, _, .bor h r => .bor (h.mono e fun p hp => by
      cases q : H p with
      | none => exact absurd q (h.dom p hp)
      | some o => exact s p o q) (Rmx.mono e s r)
theorem comp_bm {m : Bm} {a : LE} {es : LL} {ta : TE} {t : TA} (ha : CE1 C a ta) (hes : Comp C (RM C.K) (pureL es) t (evL C.phi es)) : CE1 C (.bm m a es) (tBM C.K (bmTy m) (rBm C.K m) ta t) := by
  intro σ H e F fp Q er wd post
  simp only [evE] at post
  refine ha.bind er wd post fun x e1 v F1 H1 f fp1 g1 w1 er1 r1 pu1 post1 => ?_
  by_cases hk : bmOk m x = true
  · rw [if_pos hk] at post1
    obtain ⟨f1, ro1⟩ := r1.ro
    have hs : ∃ z, x = .str z := by
      cases x <;> first | exact ⟨_, rfl⟩ | (cases m <;> simp [bmOk] at hk)
    obtain ⟨z, rfl⟩ := hs
    have hv : v = stV z := ro1.str_inv
    have rf : Rf C.K F1 v (.str z) := (ro1.scal rfl).1
    have hty : tyV C.K (bmTy m) v H1 := by
      rw [hv]
      cases m <;> rfl
    refine ⟨hty, ?_⟩
    have g1' : Go F H fp F1 H1 fp1 := g1.less fun q hq => List.mem_append_right _ hq
    have w1' : Wd F1 H1 fp1 C.fb := w1.less (.dropL _ _)
    refine hes σ H1 e1 F1 fp1 _ er1 w1' ?_
    cases hv2 : evL C.phi es e1 with
    | bad => rw [hv2] at post1; exact post1
    | xc c d e' =>
      rw [hv2] at post1
      intro F' H' fp' cls dx g' w' er' x'
      exact post1 F' H' fp' cls dx (g1'.trans g') w' er' x'
    | ok ys e2 =>
      rw [hv2] at post1
      intro vs F2 H2 g fp2 g2 w2 er2 r2 pu2
      have r2 : Rmx C.K F2 H2 vs ys g := r2
      have post2 : Post C (RV C.K false) (pureE (.bm m a es)) F H fp e σ (lift (bmop m (.str z) ys) e2) Q := post1
      cases hb : bmop m (.str z) ys with
      | none => rw [hb] at post2; exact post2.elim
      | some d =>
        rw [hb] at post2
        exact ⟨F2, .str z, [], ys, d, w2.ext, .frz (rf.mono g2.ext), r2.rox, hb, Post.rslt (C := C) post2 (g1'.trans g2) w2 (.dropL _ _) er2 fun q => by
          simp only [pureE, Bool.and_eq_true] at q
          obtain ⟨s1, q1⟩ := pu1 q.1
          obtain ⟨s2, q2⟩ := pu2 q.2
          exact ⟨s1.trans s2, q2.trans q1⟩⟩
  · rw [if_neg hk] at post1; exact post1.elim
/-! a list with stars -/
theorem cq_nil : Comp C (RL2 C.K) (pureQ .nil) tNil (evQ C.phi .nil) := by
  intro σ H e F fp Q er wd post
  simp only [evQ] at post
  exact post [] F H [] fp (.refl F H fp) wd er .nil fun _ => ⟨.refl _, rfl⟩
theorem cq_cons {a : LE} {r : LQ} {ta : TE} {tr : TA} (ha : CE1 C a ta) (hr : Comp C (RL2 C.K) (pureQ r) tr (evQ C.phi r)) (hB : isB a = false) : Comp C (RL2 C.K) (pureQ (.cons a r)) (tCons ta tr) (evQ C.phi (.cons a r)) := by
  intro σ H e F fp Q er wd post
  simp only [evQ] at post
  refine ha.bind er wd post fun x e1 v F1 H1 f fp1 g1 w1 er1 r1 pu1 post1 => ?_
  rw [hB] at r1
  have ro1 : Ro C.K F1 H1 v x f := r1
  refine hr σ H1 e1 F1 fp1 _ er1 (w1.less (.dropL _ _)) ?_
  cases hv : evQ C.phi r e1 with
  | bad => rw [hv] at post1; exact post1
  | xc c d e' =>
    rw [hv] at post1
    intro F' H' fp' cls dx g' w' er' x'
    obtain ⟨g2, w2, _⟩ := g'.frame w1 ro1.dom w'
    exact post1 F' H' fp' cls dx ((g1.trans g2).less fun q hq => List.mem_append_right _ hq) w' er' x'
  | ok xs e2 =>
    rw [hv] at post1
    intro vs F2 H2 g fp2 g2 w2 er2 r2 pu2
    obtain ⟨gf, wf, st⟩ := g2.frame w1 ro1.dom w2
    have r2 : Ros C.K F2 H2 vs xs g := r2
    have post2 : Post C (RL2 C.K) (pureQ (.cons a r)) F H fp e σ (.ok (x :: xs) e2) Q := post1
    refine post2 (v :: vs) F2 H2 (f ++ g) fp2 (by rw [List.append_assoc]; exact g1.trans gf) (by rw [List.append_assoc]; exact wf) er2 (.cons (ro1.mono g2.ext st) r2) fun z => ?_
    simp only [pureQ, Bool.and_eq_true] at z
    obtain ⟨s1, q1⟩ := pu1 z.1
    obtain ⟨s2, q2⟩ := pu2 z.2
    exact ⟨s1.trans s2, q2.trans q1⟩
theorem star_rf {K : PySem.W.Frag} {F H : Hp} {v : V} {x : D} {f : List Addr} {ys : List D} (sm : Same F H) (r : Ro K F H v x f) (h : starI x = some ys) : ∃ a ws, v = .ref a ∧ (SqT K H a ws ∨ SqL K H a ws) ∧ Rfs K F ws ys := by
  cases x <;> simp only [starI, reduceCtorEq] at h
  case tup m xs =>
    split at h
    · rename_i hf
      simp only [Option.some.injEq] at h; subst h
      obtain ⟨a, ws, g, rfl, sq, ro, _⟩ := r.tup_inv sm
      exact ⟨a, ws, rfl, .inl sq, (ro.frozen hf).1⟩
    · cases h
  case lst m xs =>
    split at h
    · rename_i hf
      simp only [Option.some.injEq] at h; subst h
      obtain ⟨a, ws, g, rfl, sq, ro, _⟩ := r.lst_inv sm
      exact ⟨a, ws, rfl, .inr sq, (ro.frozen hf).1⟩
    · cases h
theorem cq_star {a : LE} {r : LQ} {ta : TE} {tr : TA} (ha : CE1 C a ta) (hr : Comp C (RL2 C.K) (pureQ r) tr (evQ C.phi r)) : Comp C (RL2 C.K) (pureQ (.star a r)) (StX.tStar C.K ta tr) (evQ C.phi (.star a r)) := by
  intro σ H e F fp Q er wd post
  simp only [evQ] at post
  refine ha.bind er wd post fun x e1 v F1 H1 f fp1 g1 w1 er1 r1 pu1 post1 => ?_
  obtain ⟨f1, ro1⟩ := r1.ro
  simp only [lift_andThen] at post1
  cases hs : starI x with
  | none => simp only [hs] at post1; exact post1.elim
  | some ys =>
    simp only [hs] at post1
    obtain ⟨b, ws, hb, hsq, rf⟩ := star_rf w1.ext ro1 hs
    refine ⟨b, ws, hb, hsq, ?_⟩
    have g1' : Go F H fp F1 H1 fp1 := g1.less fun q hq => List.mem_append_right _ hq
    refine hr σ H1 e1 F1 fp1 _ er1 (w1.less (.dropL _ _)) ?_
    cases hv : evQ C.phi r e1 with
    | bad => rw [hv] at post1; exact post1
    | xc c d e' =>
      rw [hv] at post1
      intro F' H' fp' cls dx g' w' er' x'
      exact post1 F' H' fp' cls dx (g1'.trans g') w' er' x'
    | ok xs e2 =>
      rw [hv] at post1
      intro vs F2 H2 g fp2 g2 w2 er2 r2 pu2
      have r2 : Ros C.K F2 H2 vs xs g := r2
      have post2 : Post C (RL2 C.K) (pureQ (.star a r)) F H fp e σ (.ok (ys ++ xs) e2) Q := post1
      refine post2 (ws ++ vs) F2 H2 g fp2 (g1'.trans g2) w2 er2 (Ros.app (f := []) (rf.mono g2.ext).ros r2) fun z => ?_
      simp only [pureQ, Bool.and_eq_true] at z
      obtain ⟨s1, q1⟩ := pu1 z.1
      obtain ⟨s2, q2⟩ := pu2 z.2
      exact ⟨s1.trans s2, q2.trans q1⟩
theorem comp_lss {es : LQ} {t : TA} (h : Comp C (RL2 C.K) (pureQ es) t (evQ C.phi es)) : CE1 C (.lss es) (tLst t) := by
  intro σ H e F fp Q er wd post
  simp only [evE] at post
  refine h.bind er wd post fun xs e1 vs F1 H1 f fp1 g1 w1 er1 r1 pu1 post1 => ?_
  have ro : Ros C.K F1 H1 vs xs f := r1
  by_cases hz : xs.length ≤ sizeL
  · rw [if_pos hz] at post1
    refine ⟨by rw [ro.len, ← sizeL_eq]; exact hz, fun p hp => ?_⟩
    have dm : ∀ q ∈ f ++ fp1, H1 q ≠ none := fun q hq => (List.mem_append.mp hq).elim (ro.dom q) (er1.dom q)
    have ne : ∀ q, H1 q ≠ none → upd H1 p (.lst vs) q = H1 q := fun q hq => upd_ne fun z => hq (by rw [z]; exact hp)
    refine Post.ret (C := C) (f := p :: f) (fp' := fp1) post1 (g1.trans (Go.new hp)) (w1.new hp dm) (.refl _) (er1.mono (.refl _) (fun q hq => ne q (w1.lent q hq).2.2) fun q hq => ne q (er1.dom q hq)) (.lst upd_same (ro.mono (.refl _) fun q hq => ne q (ro.dom q hq))) fun z => ?_
    obtain ⟨s1, q1⟩ := pu1 z
    exact ⟨s1.trans fun a o ha => by rw [ne a (by rw [ha]; intro z; cases z)]; exact ha, q1⟩
  · rw [if_neg hz] at post1; exact post1.elim
end
end Z

set_option Elab.async false
set_option linter.all false
set_option maxRecDepth 100000
set_option maxHeartbeats 4000000
/-! ZD: the display of a dict with text keys: the new dict stands empty while the values are made. -/
namespace Z
open PySem L2 PyProof.Rows
section
variable {X : Cx}
def cKes : List (List Nat) → List (Option Expr) → Bool
  | [], [] => true
  | k :: ks, some (.Constant (.str s) _ _) :: r => decide (s.cps.toList = k) && cKes ks r
  | _, _ => false
theorem cKes_cons {k : List Nat} {ks : List (List Nat)} {l : List (Option Expr)} (h : cKes (k :: ks) l = true) : ∃ s i q r, l = some (.Constant (.str s) i q) :: r ∧ s.cps.toList = k ∧ cKes ks r = true := by
  unfold cKes at h
  split at h
  · cases ‹_ :: _ = []›
  · rename_i k' ks' s i q r e
    obtain ⟨rfl, rfl⟩ := List.cons.inj e
    simp only [Bool.and_eq_true, decide_eq_true_eq] at h
    exact ⟨s, i, q, r, rfl, h.1, h.2⟩
  · cases h
theorem cKes_nil {l : List (Option Expr)} (h : cKes [] l = true) : l = [] := by
  cases l with
  | nil => rfl
  | cons _ _ => simp [cKes] at h
theorem cKes_all : ∀ {ks : List (List Nat)} {l : List (Option Expr)}, cKes ks l = true → l.all (·.isSome) = true ∧ l.length = ks.length
  | [], l, h => by rw [cKes_nil h]; exact ⟨rfl, rfl⟩
  | k :: ks, l, h => by
    obtain ⟨s, i, q, r, rfl, _, h2⟩ := cKes_cons h
    obtain ⟨a, b⟩ := cKes_all h2
    exact ⟨by simp [a], by simp [b]⟩
theorem pps_k {pos : Pos} {k : List Nat} {s : Str} {i : Nat} {q : Pos} {e : Expr} {ta : TE} {kes : List (Option Expr)} {l : List Expr} {trs : List (TE × TE)} (hk : s.cps.toList = k) (ha : PE X e ta) (hr : PPs X pos kes l trs) :
    PPs X pos (some (.Constant (.str s) i q) :: kes) (e :: l) ((tC (stV k), ta) :: trs) := by
  have e1 : V.str s = stV s.cps.toList := by unfold stV; simp
  have := pps_cons (pos := pos) (pe_str (X := X) (x := s) (j := i) (pos := q)) ha hr
  rw [e1, hk] at this
  exact this
end
section
variable {C : Cz}
def RLP (K : PySem.W.Frag) (ks : List (List Nat)) : RR (List D) (List (V × V)) := fun F H f ps ds => ∃ vs, ps = (kvL ks vs).map (fun kv => (kV kv.1, kv.2)) ∧ ks.length = vs.length ∧ Ros K F H vs ds f
theorem cp2_nil : Comp C (RLP C.K []) (pureL .nil) (tPairs []) (evL C.phi .nil) := by
  intro σ H e F fp Q er wd post
  simp only [evL] at post
  exact post [] F H [] fp (.refl F H fp) wd er ⟨[], rfl, rfl, .nil⟩ fun _ => ⟨.refl _, rfl⟩
theorem cp2_cons {k : List Nat} {ks : List (List Nat)} {a : LE} {r : LL} {ta : TE} {trs : List (TE × TE)} (ha : CE1 C a ta) (hr : Comp C (RLP C.K ks) (pureL r) (tPairs trs) (evL C.phi r)) (hB : isB a = false) :
    Comp C (RLP C.K (k :: ks)) (pureL (.cons a r)) (tPairs ((tC (stV k), ta) :: trs)) (evL C.phi (.cons a r)) := by
  intro σ H e F fp Q er wd post
  simp only [evL] at post
  show ta σ H fun y H2 => tPairs trs σ H2 fun ps H3 => Q ((stV k, y) :: ps) H3
  refine ha.bind er wd post fun x e1 v F1 H1 f fp1 g1 w1 er1 r1 pu1 post1 => ?_
  refine hr σ H1 e1 F1 fp1 _ er1 (w1.less (.dropL _ _)) ?_
  cases hv : evL C.phi r e1 with
  | bad => rw [hv] at post1; exact post1
  | xc c d e' =>
    rw [hv] at post1
    intro F' H' fp' cls dx g' w' er' x'
    obtain ⟨g2, w2, _⟩ := g'.frame w1 r1.dom w'
    exact post1 F' H' fp' cls dx ((g1.trans g2).less fun q hq => List.mem_append_right _ hq) w' er' x'
  | ok xs e2 =>
    rw [hv] at post1
    intro ps F2 H2 g fp2 g2 w2 er2 r2 pu2
    obtain ⟨gf, wf, st⟩ := g2.frame w1 r1.dom w2
    have post2 : Post C (RLP C.K (k :: ks)) (pureL (.cons a r)) F H fp e σ (.ok (x :: xs) e2) Q := post1
    rw [hB] at r1
    obtain ⟨vs, rfl, hl, rs⟩ := r2
    exact post2 _ F2 H2 (f ++ g) fp2 (by rw [List.append_assoc]; exact g1.trans gf) (by rw [List.append_assoc]; exact wf) er2 ⟨v :: vs, rfl, by simp [hl], .cons ((show Ro C.K F1 H1 v x f from r1).mono g2.ext st) rs⟩ fun z => by
      simp only [pureL, Bool.and_eq_true] at z
      obtain ⟨s1, q1⟩ := pu1 z.1
      obtain ⟨s2, q2⟩ := pu2 z.2
      exact ⟨s1.trans s2, q2.trans q1⟩
theorem key_inj {a b : List Nat} (h : (Sum.inr ⟨a.toArray⟩ : Key) = .inr ⟨b.toArray⟩) : a = b := by
  injection h with h
  injection h with h
  have := congrArg Array.toList h
  simpa using this
theorem merge_kvL : ∀ (ks : List (List Nat)) (vs : List V) (acc : List (Key × V)), ks.Nodup → (∀ k ∈ ks, ∀ p ∈ acc, p.1 ≠ (.inr ⟨k.toArray⟩ : Key)) → mergeK acc (kvL ks vs) = acc ++ kvL ks vs
  | [], vs, acc, _, _ => by simp [kvL, mergeK]
  | k :: ks, [], acc, _, _ => by simp [kvL, mergeK]
  | k :: ks, v :: vs, acc, hn, hd => by
    have hn' := List.nodup_cons.mp hn
    have e : mergeK acc (kvL (k :: ks) (v :: vs)) = mergeK (putK acc (.inr ⟨k.toArray⟩) v) (kvL ks vs) := rfl
    have hv : valV acc (.inr ⟨k.toArray⟩ : Key) = none := by
      have hk := hd k (by simp)
      clear e hn hd
      induction acc with
      | nil => rfl
      | cons p acc ih =>
        rw [valV_neg (hk p (by simp))]
        exact ih fun q hq => hk q (by simp [hq])
    rw [e, putK_new v hv, merge_kvL ks vs _ hn'.2 fun j hj p hp => ?_]
    · simp [kvL]
    · rcases List.mem_append.mp hp with hp | hp
      · exact hd j (by simp [hj]) p hp
      · rw [List.mem_singleton.mp hp]
        intro z
        have := key_inj z
        subst this
        exact hn'.1 hj
theorem comp_dsp {ks : List (List Nat)} {es : LL} {trs : List (TE × TE)} (h : Comp C (RLP C.K ks) (pureL es) (tPairs trs) (evL C.phi es)) : CE1 C (.dsp ks es) (tDisp trs) := by
  intro σ H e F fp Q er wd post
  simp only [evE] at post
  intro p hp
  have dom := er.dom
  have ne : ∀ q, H q ≠ none → q ≠ p := fun q h z => h (z ▸ hp)
  have wn : Wd F (upd H p (.dK [])) ([p] ++ fp) C.fb := wd.new hp dom
  have gn : Go F H fp F (upd H p (.dK [])) ([p] ++ fp) := Go.new hp
  have er1 := er.mono (.refl F) (fun q hq => upd_ne (o := .dK []) (ne q (wd.lent q hq).2.2)) (fun q hq => upd_ne (ne q (dom q hq)))
  have dT : ∀ q ∈ [p], upd H p (.dK []) q ≠ none := fun q hq => by
    rw [List.mem_singleton.mp hq, upd_same]; intro z; cases z
  refine h σ (upd H p (.dK [])) e F fp _ er1 (wn.less (.dropL [p] fp)) ?_
  cases hv : evL C.phi es e with
  | bad => rw [hv] at post; exact post
  | xc c d e' =>
    rw [hv] at post
    intro F' H' fp' cls dx g' w' er' x'
    obtain ⟨g2, w2, _⟩ := g'.frame wn dT w'
    exact post F' H' fp' cls dx ((gn.trans g2).less fun q hq => List.mem_append_right _ hq) w' er' x'
  | ok xs e2 =>
    rw [hv] at post
    intro ps F2 H2 f fp2 g2 w2 er2 r2 pu2
    obtain ⟨gf, wf, st⟩ := g2.frame wn dT w2
    have hp2 : H2 p = some (.dK []) := (st p (by simp)).trans upd_same
    obtain ⟨vs, rfl, hl, rs⟩ := r2
    simp only [Res.andThen] at post
    by_cases hc : (decide (ks.length = xs.length) && decide ks.Nodup && decide (ks ≠ []) && decide (ks.length ≤ 15)) = true
    · rw [if_pos hc] at post
      simp only [Bool.and_eq_true, decide_eq_true_eq] at hc
      obtain ⟨⟨⟨c1, c2⟩, c3⟩, c4⟩ := hc
      refine ⟨hp2, kvL ks vs, rfl, by simp [kvL]; omega, ?_⟩
      rw [merge_kvL ks vs [] c2 (fun _ _ p hp => by cases hp), List.nil_append]
      have npf : p ∉ f ++ fp2 := fun z => (nodup_app wf.nd).2.2 p (by simp) z
      have hpm : p ∈ [p] ++ (f ++ fp2) := by simp
      have kw : ∀ q, q ≠ p → upd H2 p (.dK (kvL ks vs)) q = H2 q := fun q hq => upd_ne hq
      refine Post.ret (C := C) (f := p :: f) (fp' := fp2) post ((gn.trans gf).trans (Go.write hpm)) (wf.write hpm) (.refl _) (er2.mono (.refl _) (fun q hq => kw q fun z => ?_) fun q hq => kw q fun z => npf (by rw [← z]; exact List.mem_append_right _ hq)) (.dic upd_same c1 c2 (rs.mono (.refl _) fun q hq => kw q fun z => npf (by rw [← z]; exact List.mem_append_left _ hq))) fun z => by simp [pureE] at z
      exact (wf.lent q hq).1 (by rw [z]; exact hpm)
    · rw [if_neg hc] at post; exact post.elim
/-! {k: v}, k a tuple of numbers -/
def RKV (K : PySem.W.Frag) : RR (D × D) (V × V) := fun F H f p q => ∃ f1 f2, f = f1 ++ f2 ∧ Ro K F H p.1 q.1 f1 ∧ Ro K F H p.2 q.2 f2
def evKV (phi : Nat → List PM → List D → FRes) (a b : LE) (e : Env) : Res (D × D) := (evE phi a e).andThen fun x e => (evE phi b e).andThen fun y e => .ok (x, y) e
theorem comp_kv {a b : LE} {ta tb : TE} (ha : CE1 C a ta) (hb : CE1 C b tb) (h0 : isB a = false) (h1 : isB b = false) :
    Comp C (RKV C.K) false (fun σ H (Q : V × V → Hp → Prop) => ta σ H fun x H1 => tb σ H1 fun y H2 => Q (x, y) H2) (evKV C.phi a b) := by
  intro σ H e F fp Q er wd post
  unfold evKV at post
  refine ha.two hb (fun z => by rw [h0] at z; cases z) (fun z => by cases z) er wd post fun x y e2 v w F2 H2 f g fp2 g2 w2 er2 r1 r2 _ post2 => ?_
  rw [h0] at r1
  rw [h1] at r2
  exact post2 (v, w) F2 H2 (f ++ g) fp2 (by rw [List.append_assoc]; exact g2) (by rw [List.append_assoc]; exact w2) er2 ⟨f, g, rfl, r1, r2⟩ fun z => by cases z
theorem comp_tdd {a b : LE} {ta tb : TE} (ha : CE1 C a ta) (hb : CE1 C b tb) (h0 : isB a = false) (h1 : isB b = false) : CE1 C (.tdd a b) (tDispT C.K ta tb) := by
  have h := comp_kv ha hb h0 h1
  intro σ H e F fp Q er wd post
  have post : Post C (RV C.K false) false F H fp e σ ((evKV C.phi a b e).andThen fun q e => if keyT q.1 && fzn q.1 && scalD q.2 then .ok (.td [q.1] [q.2]) e else .bad) Q := by
    have e1 : evE C.phi (.tdd a b) e = (evKV C.phi a b e).andThen fun q e => if keyT q.1 && fzn q.1 && scalD q.2 then .ok (.td [q.1] [q.2]) e else .bad := by
      simp only [evE, evKV]
      cases evE C.phi a e with
      | bad => rfl
      | xc c d e' => rfl
      | ok x e' =>
        show (evE C.phi b e').andThen _ = ((evE C.phi b e').andThen _).andThen _
        cases evE C.phi b e' <;> rfl
    rw [← e1]; exact post
  intro p hp
  have dom := er.dom
  have ne : ∀ q, H q ≠ none → q ≠ p := fun q h z => h (z ▸ hp)
  have wn : Wd F (upd H p (tdO p [] [] [])) ([p] ++ fp) C.fb := wd.new hp dom
  have gn : Go F H fp F (upd H p (tdO p [] [] [])) ([p] ++ fp) := Go.new hp
  have er1 := er.mono (.refl F) (fun q hq => upd_ne (o := tdO p [] [] []) (ne q (wd.lent q hq).2.2)) (fun q hq => upd_ne (ne q (dom q hq)))
  have dT : ∀ q ∈ [p], upd H p (tdO p [] [] []) q ≠ none := fun q hq => by
    rw [List.mem_singleton.mp hq, upd_same]; intro z; cases z
  have hh := h σ (upd H p (tdO p [] [] [])) e F fp (fun q H2 => H2 p = some (tdO p [] [] []) ∧
    ∃ F d1 b f, Same F H2 ∧ Ro C.K F H2 q.1 d1 f ∧ keyT d1 = true ∧ q.1 = .ref b ∧ Q (.ref p) (upd H2 p (tdO p [d1] [b] [q.2]))) er1 (wn.less (.dropL [p] fp))
  refine hh ?_
  cases hv : evKV C.phi a b e with
  | bad => rw [hv] at post; exact post
  | xc c d e' =>
    rw [hv] at post
    intro F' H' fp' cls dx g' w' er' x'
    obtain ⟨g2, w2, _⟩ := g'.frame wn dT w'
    exact post F' H' fp' cls dx ((gn.trans g2).less fun q hq => List.mem_append_right _ hq) w' er' x'
  | ok xy e2 =>
    obtain ⟨x, y⟩ := xy
    rw [hv] at post
    intro vw F2 H2 f fp2 g2 w2 er2 r2 pu2
    obtain ⟨v, w⟩ := vw
    obtain ⟨gf, wf, st⟩ := g2.frame wn dT w2
    have hp2 : H2 p = some (tdO p [] [] []) := (st p (by simp)).trans upd_same
    obtain ⟨f1, f2, rfl, r1, r2⟩ := r2
    simp only [Res.andThen] at post
    by_cases hc : (keyT x && fzn x && scalD y) = true
    · rw [if_pos hc] at post
      simp only [Bool.and_eq_true] at hc
      obtain ⟨⟨c1, c2⟩, c3⟩ := hc
      obtain ⟨rx, rfl⟩ := r1.frozen c2
      obtain ⟨ry, rfl⟩ := r2.scal c3
      obtain ⟨b, rfl⟩ : ∃ b, v = .ref b := by
        obtain ⟨_, m, zs, e⟩ := keyT_ok c1
        cases e
        cases rx
        exact ⟨_, rfl⟩
      refine ⟨hp2, F2, x, b, [], w2.ext, .frz rx, c1, rfl, ?_⟩
      have npf : p ∉ fp2 := fun z => (nodup_app wf.nd).2.2 p (by simp) (by simpa using z)
      have hpm : p ∈ [p] ++ (([] ++ []) ++ fp2) := by simp
      have kw : ∀ q, q ≠ p → upd H2 p (tdO p [x] [b] [w]) q = H2 q := fun q hq => upd_ne hq
      refine Post.ret (C := C) (f := [p]) (fp' := fp2) post ((gn.trans gf).trans (Go.write hpm)) (wf.write hpm) (by simp; exact .refl _) (er2.mono (.refl _) (fun q hq => kw q fun z => ?_) fun q hq => kw q fun z => npf (by rw [← z]; exact hq)) (.td upd_same (.cons rx .nil) (by simp [c1]) (by simp) rfl (by simp) (.cons ry .nil) (by simp [c3])) fun z => by cases z
      exact (wf.lent q hq).1 (by rw [z]; exact hpm)
    · rw [if_neg hc] at post; exact post.elim
end
end Z

set_option Elab.async false
set_option linter.all false
set_option maxRecDepth 100000
set_option maxHeartbeats 4000000
/-! ZS: min(*a, *b) for two pairs of numbers. -/
namespace PySem
open Sem (wp)
section
variable {prog : Program} {w : World} {A : Around} {E : Value → Shared → Prop} {s : Shared}
theorem Zmin4_args (a b c d : Value) : argsOk "min" ⟨[a, b, c, d], []⟩ := by unfold argsOk; kernel_rfl
theorem Zmin4_call {a b c d : Value} {Q : Value → Shared → Prop}
    (h : wpAny (model prog w) A.in1 (pyIter (.ref s.heap.objs.size)) (fun it s₂ => ∃ I fp wr n P St bt, it = .ref I ∧ Walks prog w A.in1 I fp wr n P St ∧ St 0 s₂.heap ∧ (∀ b ∈ fp, b < s₂.heap.objs.size) ∧ 0 < n ∧ CmpOf prog w A.in1 .Lt P bt ∧
      ∀ v h' tk, P (argBest bt (n - 1)) v → (∀ b o, b ∉ wr → s₂.heap.get? b = some o → h'.get? b = some o) → Q v { s₂ with heap := h', toks := tk }) E
      { s with heap := s.heap.push { cls := .type "tuple", data := .seq #[a, b, c, d] } }) :
    wpAny (model prog w) A (call (.builtin "min") [a, b, c, d]) Q E s := by
  have hname : (toString "min" ++ toString ".loop" : String) = "min.loop" := by decide
  refine call_function_tree F.kind_min F.plain_min F.entry_min (Zmin4_args _ _ _ _) ?_
  show wpAny _ A.in1 (Builtin.Builtins.bindParams "min" ["key", "default"] 0 ⟨[], []⟩ >>= _) _ _ s
  refine wpAny_bind (wpAny_of_eq (show Builtin.Builtins.bindParams "min" ["key", "default"] 0 ⟨[], []⟩ = pure [none, none] from rfl) ?_)
  show wpAny _ A.in1 (newTuple [a, b, c, d] >>= _) _ _ s
  refine wpAny_bind (wpAny_newObj_type ?_)
  refine wpAny_bind (wpAny_mono h (fun it s₂ h₂ => ?_) fun _ _ e => e)
  obtain ⟨I, fp, wr, n, P, St, bt, rfl, W, hst, hfp, hn, hcmp, hQ⟩ := h₂
  refine wpAny_bind (wpAny_newObj_type ?_)
  have hSf : s₂.heap.objs.size ∉ fp := fun hm => Nat.lt_irrefl _ (hfp _ hm)
  rw [hname]
  refine wpAny_pure ⟨plainId_quiet F.plain_min_loop _, codeAny_min_loop_first W bt hcmp s₂.heap.objs.size hSf hn (W.frame _ _ _ hst fun b _ o e => Heap.get?_push_of_some _ e) (Heap.get?_push_size _ rfl) fun v h' tk hP hk => ?_⟩
  exact hQ v h' tk hP fun b o hbw e => hk b o hbw (Nat.ne_of_lt (Heap.lt_size e)) (Heap.get?_push_of_some _ e)
theorem Zmin4_best {a b c d : Int} {t u x y : Tok} {v : Value} (h : (intItems #[(a, t), (b, u), (c, x), (d, y)])[argBest (fun i j => decide (numAt #[(a, t), (b, u), (c, x), (d, y)] i < numAt #[(a, t), (b, u), (c, x), (d, y)] j)) 3]? = some v) :
    ∃ z, v = .int (min (min (min a b) c) d) z := by
  by_cases h1 : b < a
  · by_cases h2 : c < b
    · by_cases h3 : d < c
      · have e : argBest (fun i j => decide (numAt #[(a, t), (b, u), (c, x), (d, y)] i < numAt #[(a, t), (b, u), (c, x), (d, y)] j)) 3 = 3 := by simp [argBest, numAt, h1, h2, h3]
        rw [e] at h
        exact ⟨y, by rw [show min (min (min a b) c) d = d by omega]; simpa [intItems] using h.symm⟩
      · have e : argBest (fun i j => decide (numAt #[(a, t), (b, u), (c, x), (d, y)] i < numAt #[(a, t), (b, u), (c, x), (d, y)] j)) 3 = 2 := by simp [argBest, numAt, h1, h2, h3]
        rw [e] at h
        exact ⟨x, by rw [show min (min (min a b) c) d = c by omega]; simpa [intItems] using h.symm⟩
    · by_cases h3 : d < b
      · have e : argBest (fun i j => decide (numAt #[(a, t), (b, u), (c, x), (d, y)] i < numAt #[(a, t), (b, u), (c, x), (d, y)] j)) 3 = 3 := by simp [argBest, numAt, h1, h2, h3]
        rw [e] at h
        exact ⟨y, by rw [show min (min (min a b) c) d = d by omega]; simpa [intItems] using h.symm⟩
      · have e : argBest (fun i j => decide (numAt #[(a, t), (b, u), (c, x), (d, y)] i < numAt #[(a, t), (b, u), (c, x), (d, y)] j)) 3 = 1 := by simp [argBest, numAt, h1, h2, h3]
        rw [e] at h
        exact ⟨u, by rw [show min (min (min a b) c) d = b by omega]; simpa [intItems] using h.symm⟩
  · by_cases h2 : c < a
    · by_cases h3 : d < c
      · have e : argBest (fun i j => decide (numAt #[(a, t), (b, u), (c, x), (d, y)] i < numAt #[(a, t), (b, u), (c, x), (d, y)] j)) 3 = 3 := by simp [argBest, numAt, h1, h2, h3]
        rw [e] at h
        exact ⟨y, by rw [show min (min (min a b) c) d = d by omega]; simpa [intItems] using h.symm⟩
      · have e : argBest (fun i j => decide (numAt #[(a, t), (b, u), (c, x), (d, y)] i < numAt #[(a, t), (b, u), (c, x), (d, y)] j)) 3 = 2 := by simp [argBest, numAt, h1, h2, h3]
        rw [e] at h
        exact ⟨x, by rw [show min (min (min a b) c) d = c by omega]; simpa [intItems] using h.symm⟩
    · by_cases h3 : d < a
      · have e : argBest (fun i j => decide (numAt #[(a, t), (b, u), (c, x), (d, y)] i < numAt #[(a, t), (b, u), (c, x), (d, y)] j)) 3 = 3 := by simp [argBest, numAt, h1, h2, h3]
        rw [e] at h
        exact ⟨y, by rw [show min (min (min a b) c) d = d by omega]; simpa [intItems] using h.symm⟩
      · have e : argBest (fun i j => decide (numAt #[(a, t), (b, u), (c, x), (d, y)] i < numAt #[(a, t), (b, u), (c, x), (d, y)] j)) 3 = 0 := by simp [argBest, numAt, h1, h2, h3]
        rw [e] at h
        exact ⟨t, by rw [show min (min (min a b) c) d = a by omega]; simpa [intItems] using h.symm⟩
theorem Zmin4_ints {a b c d : Int} {t u x y : Tok} {Q : Value → Shared → Prop} (hh : A.handled = none)
    (h : ∀ h' tk z, (∀ d o, s.heap.get? d = some o → h'.get? d = some o) → Q (.int (min (min (min a b) c) d) z) { s with heap := h', toks := tk }) :
    wpAny (model prog w) A (call (.builtin "min") [.int a t, .int b u, .int c x, .int d y]) Q E s := by
  have hT : (s.heap.push { cls := .type "tuple", data := .seq #[.int a t, .int b u, .int c x, .int d y] }).IsTuple s.heap.objs.size (intItems #[(a, t), (b, u), (c, x), (d, y)]) := ⟨_, Heap.get?_push_size _ rfl, rfl, 0, by simp [intItems]⟩
  refine Zmin4_call (wpAny_pyIter_tuple hT ?_)
  have hsz : (s.heap.push { cls := .type "tuple", data := .seq #[.int a t, .int b u, .int c x, .int d y] }).objs.size = s.heap.objs.size + 1 := Heap.size_push ..
  refine ⟨_, [_, s.heap.objs.size], [_], _, _, _, _, rfl, Walks.tuple (A := A.in1) hh _ s.heap.objs.size (by rw [hsz]; exact Nat.ne_of_lt (Nat.lt_succ_self _)) (intItems #[(a, t), (b, u), (c, x), (d, y)]),
    ⟨⟨_, Heap.get?_push_size _ rfl, rfl, rfl⟩, hT.push _⟩, fun d hd => ?_, by simp [intItems], CmpOf.ints_lt (numAt #[(a, t), (b, u), (c, x), (d, y)]) (fun _ _ => intItems_at), fun v h' tk hP hk => ?_⟩
  · show d < ((s.heap.push _).push _).objs.size
    rw [Heap.size_push, hsz]
    rcases List.mem_cons.mp hd with rfl | hd
    · rw [hsz]; exact Nat.lt_succ_self _
    · rcases List.mem_cons.mp hd with rfl | hd
      · exact Nat.lt_succ_of_lt (Nat.lt_succ_self _)
      · cases hd
  · have hold : ∀ d o, s.heap.get? d = some o → h'.get? d = some o := fun d o e => by
      refine hk d o (fun hm => ?_) (Heap.get?_push_of_some _ (Heap.get?_push_of_some _ e))
      rcases List.mem_cons.mp hm with e1 | hm
      · have := Heap.lt_size e; rw [e1, hsz] at this; exact Nat.lt_irrefl _ (Nat.lt_of_succ_lt this)
      · cases hm
    have hP' : (intItems #[(a, t), (b, u), (c, x), (d, y)])[argBest (fun i j => decide (numAt #[(a, t), (b, u), (c, x), (d, y)] i < numAt #[(a, t), (b, u), (c, x), (d, y)] j)) 3]? = some v := by
      have hsz2 : (intItems #[(a, t), (b, u), (c, x), (d, y)]).size - 1 = 3 := by simp [intItems]
      rw [← hsz2]; exact hP
    obtain ⟨z, rfl⟩ := Zmin4_best hP'
    exact h h' tk z hold
end
end PySem
namespace Z
open PySem L2 PyProof.Rows
section
variable {X : Cx}
def rMin4 : List V → Hp → VK → Prop := fun xs H Q => ∃ a b c d : Int, xs = [.int a, .int b, .int c, .int d] ∧ Q (.int (min (min (min a b) c) d)) H
theorem call_min4 (hc : X.calm = true) : CallR X (.builtin "min") rMin4 := by
  intro pins s σ H xs us Q I r h
  obtain ⟨a, b, c, d, rfl, q⟩ := h
  cases r with
  | cons r1 r => cases r with
    | cons r2 r => cases r with
      | cons r3 r => cases r with
        | cons r4 r =>
          cases r
          obtain ⟨t1, rfl⟩ := r1
          obtain ⟨t2, rfl⟩ := r2
          obtain ⟨t3, rfl⟩ := r3
          obtain ⟨t4, rfl⟩ := r4
          exact Zmin4_ints (I.ok.hd hc) fun h' tk z k => ⟨.int _, H, I.kept k, ⟨z, rfl⟩, q⟩
/-- x(*a, *b), x a built-in function -/
theorem pe_callB2s {x : Str} {id : String} {r : List V → Hp → VK → Prop} {e1 e2 : Expr} {t1 t2 : TE} {p p1 p2 pos : Pos} (hc : CallR X (.builtin id) r) (hg : Gl X x) (hm : X.mg x = none) (hv : bootBuiltins x = some (.builtin id)) (h1 : PE X e1 t1) (h2 : PE X e2 t2) (hn : x ≠ "__name__" := by decide) (hdb : (x == ("__debug__" : Str)) = false := by decide) :
    PE X (.Call (.Name x p) [.Starred e1 p1, .Starred e2 p2] [] pos) (tCB r (StX.tStar X.K t1 (StX.tStar X.K t2 tNil))) := by
  have ha : PA X [.Starred e1 p1, .Starred e2 p2] (StX.tStar X.K t1 (StX.tStar X.K t2 tNil)) := StX.pa_star h1 (StX.pa_star h2 pa_nil)
  refine ⟨fun pins s σ H Q I h => ?_⟩
  refine wpAny_Call_Name_kw (ld_blt I hg hm hv ?_ hn hdb)
  refine PySem.W.ks_call (P := fun _ => True) rfl (fun h _ => ⟨.machine, .inr (.inl rfl), PySem.W.Looks.of_pure rfl⟩) ?_
  have z := ha.run pos pins s σ H _ I h
  unfold evalArgs
  refine wpAny_bind ?_
  refine thn z fun us s1 ⟨vs, H1, I1, r1, q1⟩ => ?_
  refine wpAny_bind (wpAny_pure ?_)
  refine wpAny_holding ?_
  first
    | exact wpAny_pure ⟨trivial, hc pins s1 σ H1 vs us Q I1 r1 q1⟩
    | exact wpAny_bind (wpAny_pure (wpAny_pure ⟨trivial, hc pins s1 σ H1 vs us Q I1 r1 q1⟩))
    | exact wpAny_bind (wpAny_pure (wpAny_bind (wpAny_pure (wpAny_pure ⟨trivial, hc pins s1 σ H1 vs us Q I1 r1 q1⟩))))
end
section
variable {C : Cz}
theorem prD_is {x : D} {p : Int × Int} (h : prD x = some p) : ∃ m, x = .tup m [.int p.1, .int p.2] := by
  unfold prD at h
  split at h
  · cases h; exact ⟨_, rfl⟩
  · cases h
theorem pair_inv {F H : Hp} (e : Same F H) {v : V} {m : Bool} {a b : Int} {fp : List Addr} (h : Ro C.K F H v (.tup m [.int a, .int b]) fp) : ∃ q, v = .ref q ∧ SqT C.K H q [.int a, .int b] := by
  obtain ⟨q, xs, f2, rfl, sq, rs, _⟩ := h.tup_inv e
  cases rs with
  | cons r1 rs => cases rs with
    | cons r2 rs =>
      cases rs
      obtain rfl := r1.int_inv
      obtain rfl := r2.int_inv
      exact ⟨q, rfl, sq⟩
theorem comp_mn4 {a b : LE} {ta tb : TE} (ha : CE1 C a ta) (hb : CE1 C b tb) (hA : isB a = false) (hB : isB b = false) : CE1 C (.mn4 a b) (tCB rMin4 (StX.tStar C.K ta (StX.tStar C.K tb tNil))) := by
  intro σ H e F fp Q er wd post
  simp only [evE] at post
  refine ha.bind er wd post fun x e1 v F1 H1 f fp1 g1 w1 er1 r1 pu1 post1 => ?_
  rw [hA] at r1
  cases hx : prD x with
  | none => rw [hx] at post1; exact post1.elim
  | some p =>
    rw [hx] at post1
    obtain ⟨m, rfl⟩ := prD_is hx
    obtain ⟨q1, rfl, s1⟩ := pair_inv w1.ext (RV.own r1)
    refine ⟨q1, [.int p.1, .int p.2], rfl, .inl s1, ?_⟩
    have post1 : Post C (RV C.K (isB (.mn4 a b))) (pureE (.mn4 a b)) F H fp e σ ((evE C.phi b e1).andThen fun y e => (lift (prD y) e).andThen fun q e => .ok (.int (min (min (min p.1 p.2) q.1) q.2)) e) Q := post1
    have ps1 := post1.shift (p' := false) (f := f) (e1 := e1) g1 w1 r1.dom fun z => by simp [pureE] at z
    refine hb.bind er1 (w1.less (.dropL _ _)) ps1 fun y e2 v2 F2 H2 f2 fp2 g2 w2 er2 r2 pu2 post2 => ?_
    rw [hB] at r2
    cases hy : prD y with
    | none => rw [hy] at post2; exact post2.elim
    | some q =>
      rw [hy] at post2
      obtain ⟨m2, rfl⟩ := prD_is hy
      obtain ⟨q2, rfl, s2⟩ := pair_inv w2.ext (RV.own r2)
      refine ⟨q2, [.int q.1, .int q.2], rfl, .inl s2, ?_⟩
      refine ⟨p.1, p.2, q.1, q.2, rfl, ?_⟩
      exact post2 _ F2 H2 [] fp2 (g2.less fun z hz => List.mem_append_right _ hz) (w2.less (.dropL _ _)) er2 (RV.scal (.frz (.int _))) fun z => by cases z
/-! x or y by truth -/
theorem truV_of {K : PySem.W.Frag} {F H : Hp} {v : V} {x : D} {c : Bool} (r : Rf K F v x) (h : truD x = some c) : TruV K v H c := by
  cases x <;> simp only [truD, reduceCtorEq, Option.some.injEq] at h
  · obtain rfl := r.non_inv; exact h.symm
  · obtain rfl := r.bl_inv; exact h.symm
  · obtain rfl := r.int_inv; exact h.symm
  · obtain rfl := r.str_inv
    split at h
    · rename_i s hz
      simp only [Option.some.injEq] at h
      refine ⟨?_, ?_⟩
      · rw [str_len, sizeLine_eq]; exact hz
      · rw [str_len]; exact h.symm
    · cases h
theorem comp_orv {a b : LE} {ta tb : TE} (ha : CE1 C a ta) (hb : CE1 C b tb) (hB : isB b = false) : CE1 C (.orv a b) (tOrT C.K ta tb) := by
  intro σ H e F fp Q er wd post
  simp only [evE] at post
  refine ha.bind er wd post fun x e1 v F1 H1 f fp1 g1 w1 er1 r1 pu1 post1 => ?_
  cases hx : truD x with
  | none => rw [hx] at post1; exact post1.elim
  | some c =>
    rw [hx] at post1
    obtain ⟨f', ro⟩ := r1.ro
    have sc : scalD x = true := by cases x <;> first | rfl | cases hx
    obtain ⟨rf, _⟩ := ro.scal sc
    refine ⟨c, truV_of rf hx, ?_⟩
    cases c with
    | true =>
      rw [if_pos rfl]
      exact Post.retS (C := C) post1 g1 w1 (.dropL _ _) er1 rf fun z => by
        simp only [pureE, Bool.and_eq_true] at z
        exact pu1 z.1
    | false =>
      rw [if_neg (by decide)]
      have post1 : Post C (RV C.K (isB (LE.orv a b))) (pureE (LE.orv a b)) F H fp e σ (evE C.phi b e1) Q := post1
      have eB : isB (LE.orv a b) = isB b := by rw [hB]; rfl
      rw [eB] at post1
      exact hb σ H1 e1 F1 fp1 Q er1 (w1.less (.dropL _ _)) (post1.shift g1 w1 r1.dom fun z => by
        simp only [pureE, Bool.and_eq_true] at z
        exact ⟨pu1 z.1, z.2⟩)
end
end Z

set_option Elab.async false
set_option linter.all false
set_option maxRecDepth 100000
set_option maxHeartbeats 4000000
/-! Z7: what a def promises; calls. -/
namespace Z
open PySem L2

/-! ### a variable's object is taken out and put back -/
def blk : Env → Nat → Env
  | _ :: r, 0 => .no :: r
  | x :: r, n + 1 => x :: blk r n
  | [], _ => []
theorem blk_get : ∀ {e : Env} {i j : Nat}, j ≠ i → getS (blk e i) j = getS e j
  | [], _, _, _ => rfl
  | x :: r, 0, 0, h => absurd rfl h
  | x :: r, 0, j + 1, _ => by simp [blk, getS]
  | x :: r, i + 1, 0, _ => by cases x <;> simp [blk, getS]
  | x :: r, i + 1, j + 1, h => by
    have := blk_get (e := r) (i := i) (j := j) (by omega)
    simp [blk, getS, this]
/-- the variable is not lent -/
def own? : Env → Nat → Bool
  | .bo _ :: _, 0 => false
  | _ :: _, 0 => true
  | _ :: r, n + 1 => own? r n
  | [], _ => false
theorem put_own : ∀ {e e' : Env} {i : Nat} {d : D}, putS e i d = some e' → own? e i = true
  | [], _, _, _, h => by simp [putS] at h
  | .no :: r, _, 0, _, h => by simp [putS] at h
  | .fr _ :: r, _, 0, _, h => rfl
  | .pn _ :: r, _, 0, _, h => rfl
  | .bo _ :: r, _, 0, _, h => by simp [putS] at h
  | x :: r, _, i + 1, _, h => by
    simp only [putS, Option.map_eq_some_iff] at h
    obtain ⟨e', h, _⟩ := h
    have := put_own h
    cases x <;> simpa [own?] using this
section
variable {K : PySem.W.Frag} {fb : List Addr}
theorem EnvR.blank {F H : Hp} : ∀ {s0 s : L2.St} {en : Env} {fp : List Addr} {i : Nat} {d : D}, EnvR K F H fb s0 s en fp → getS en i = some d → own? en i = true →
    ∃ v f rest, s[i]? = some (some v) ∧ Ro K F H v d f ∧ EnvR K F H fb s0 s (blk en i) rest ∧ NS (f ++ rest) fp ∧ (∀ p ∈ fp, p ∈ f ++ rest) ∧
      ∀ {F' H' : Hp} {fb' f' rest' : List Addr} {d' : D} {en' : Env}, EnvR K F' H' fb' s0 s (blk en i) rest' → Ro K F' H' v d' f' → putS en i d' = some en' → ∃ fp', EnvR K F' H' fb' s0 s en' fp' ∧ NS fp' (f' ++ rest')
  | _, _, _, _, _, _, .nil, h, _ => by simp [getS] at h
  | _, _, _, _, 0, _, .no r, h, _ => by simp [getS] at h
  | _, _, _, _, 0, _, .fr (f := g) (fp := gp) k r, h, _ => by
    simp only [getS, Option.some.injEq] at h; subst h
    refine ⟨_, g, gp, rfl, k, .no r, .refl _, fun _ hp => hp, fun er ro hp => ?_⟩
    simp only [putS, Option.some.injEq] at hp; subst hp
    cases er with
    | no er => exact ⟨_, .fr ro er, .refl _⟩
  | _, _, _, _, 0, _, .pn (f := g) (fp := gp) k r, h, _ => by
    simp only [getS, Option.some.injEq] at h; subst h
    refine ⟨_, g, gp, rfl, k, .no r, .refl _, fun _ hp => hp, fun er ro hp => ?_⟩
    simp only [putS, Option.some.injEq] at hp; subst hp
    cases er with
    | no er => exact ⟨_, .pn ro er, .refl _⟩
  | _, _, _, _, 0, _, .bo k z r, h, o => by simp [own?] at o
  | _, _, _, _, i + 1, _, .no r, h, o => by
    obtain ⟨v, f, rest, a, b, c, n1, n2, m⟩ := EnvR.blank (i := i) r (by simpa [getS] using h) o
    refine ⟨v, f, rest, by simpa using a, b, .no c, n1, n2, fun {F' H' fb' f' rest' d' en'} er ro hp => ?_⟩
    simp only [putS, Option.map_eq_some_iff] at hp
    obtain ⟨e', hp, rfl⟩ := hp
    cases er with
    | no er =>
      obtain ⟨fp', x, y⟩ := m er ro hp
      exact ⟨fp', .no x, y⟩
  | _, _, _, _, i + 1, _, .fr (f := g) k r, h, o => by
    obtain ⟨v, f, rest, a, b, c, n1, n2, m⟩ := EnvR.blank (i := i) r (by simpa [getS] using h) o
    refine ⟨v, f, g ++ rest, by simpa using a, b, .fr k c, (NS.mid ..).trans (n1.left g), fun p hp => ?_, fun {F' H' fb' f' rest' d' en'} er ro hp => ?_⟩
    · rcases List.mem_append.mp hp with z | z
      · exact List.mem_append_right _ (List.mem_append_left _ z)
      · rcases List.mem_append.mp (n2 p z) with z | z
        · exact List.mem_append_left _ z
        · exact List.mem_append_right _ (List.mem_append_right _ z)
    · simp only [putS, Option.map_eq_some_iff] at hp
      obtain ⟨e', hp, rfl⟩ := hp
      cases er with
      | fr k' er =>
        obtain ⟨fp', x, y⟩ := m er ro hp
        exact ⟨_, .fr k' x, (y.left _).trans (NS.mid ..)⟩
  | _, _, _, _, i + 1, _, .pn (f := g) k r, h, o => by
    obtain ⟨v, f, rest, a, b, c, n1, n2, m⟩ := EnvR.blank (i := i) r (by simpa [getS] using h) o
    refine ⟨v, f, g ++ rest, by simpa using a, b, .pn k c, (NS.mid ..).trans (n1.left g), fun p hp => ?_, fun {F' H' fb' f' rest' d' en'} er ro hp => ?_⟩
    · rcases List.mem_append.mp hp with z | z
      · exact List.mem_append_right _ (List.mem_append_left _ z)
      · rcases List.mem_append.mp (n2 p z) with z | z
        · exact List.mem_append_left _ z
        · exact List.mem_append_right _ (List.mem_append_right _ z)
    · simp only [putS, Option.map_eq_some_iff] at hp
      obtain ⟨e', hp, rfl⟩ := hp
      cases er with
      | pn k' er =>
        obtain ⟨fp', x, y⟩ := m er ro hp
        exact ⟨_, .pn k' x, (y.left _).trans (NS.mid ..)⟩
  | _, _, _, _, i + 1, _, .bo k z r, h, o => by
    obtain ⟨v, f, rest, a, b, c, n1, n2, m⟩ := EnvR.blank (i := i) r (by simpa [getS] using h) o
    refine ⟨v, f, rest, by simpa using a, b, .bo k z c, n1, n2, fun {F' H' fb' f' rest' d' en'} er ro hp => ?_⟩
    simp only [putS, Option.map_eq_some_iff] at hp
    obtain ⟨e', hp, rfl⟩ := hp
    cases er with
    | bo k' z' er =>
      obtain ⟨fp', x, y⟩ := m er ro hp
      exact ⟨fp', .bo k' z' x, y⟩
theorem kvL_inj : ∀ {ks : List (List Nat)} {xs ys : List V}, xs.length = ks.length → ys.length = ks.length → kvL ks xs = kvL ks ys → xs = ys
  | [], xs, ys, h1, h2, _ => by rw [List.length_eq_zero_iff.mp h1, List.length_eq_zero_iff.mp h2]
  | k :: ks, [], _, h1, _, _ => by simp at h1
  | k :: ks, _ :: _, [], _, h2, _ => by simp at h2
  | k :: ks, x :: xs, y :: ys, h1, h2, h => by
    have h := List.cons.inj (show (Sum.inr _, x) :: kvL ks xs = (Sum.inr _, y) :: kvL ks ys from h)
    have e := Prod.mk.inj h.1
    rw [e.2, kvL_inj (by simpa using h1) (by simpa using h2) h.2]
mutual
theorem Ro.uniq {F H : Hp} : ∀ {v : V} {d : D} {f g : List Addr}, Ro K F H v d f → Ro K F H v d g → f = g
  | _, _, _, _, .frz a, b => by
    obtain ⟨_, e⟩ := b.frozen a.fzn
    exact e.symm
  | _, _, _, _, .tup h r, b => by
    cases b with
    | frz b => have := b.fzn; simp [fzn] at this
    | tup h' r' =>
      rw [h] at h'
      cases h'
      rw [Ros.uniq r r']
  | _, _, _, _, .lst h r, b => by
    cases b with
    | frz b => have := b.fzn; simp [fzn] at this
    | lst h' r' =>
      rw [h] at h'
      cases h'
      rw [Ros.uniq r r']
  | _, _, _, _, .dic h l n r, b => by
    cases b with
    | frz b => cases b
    | dic h' l' n' r' =>
      rw [h] at h'
      have e := kvL_inj (by rw [r.len, l]) (by rw [r'.len, l']) (by injection h' with h'; injection h')
      subst e
      rw [Ros.uniq r r']
  | _, _, _, _, .td h _ _ _ _ _ _ _, b => by
    cases b with
    | frz b => cases b
    | td h' _ _ _ _ _ _ _ => rfl
theorem Ros.uniq {F H : Hp} : ∀ {v : List V} {d : List D} {f g : List Addr}, Ros K F H v d f → Ros K F H v d g → f = g
  | _, _, _, _, .nil, b => by cases b; rfl
  | _, _, _, _, .cons h r, b => by
    cases b with
    | cons h' r' => rw [Ro.uniq h h', Ros.uniq r r']
end
theorem EnvR.uniq {F H : Hp} {fb' : List Addr} : ∀ {s0 s : L2.St} {en : Env} {fp gp : List Addr}, EnvR K F H fb s0 s en fp → EnvR K F H fb' s0 s en gp → fp = gp
  | _, _, _, _, _, .nil, b => by cases b; rfl
  | _, _, _, _, _, .no r, b => by cases b with | no r' => exact EnvR.uniq r r'
  | _, _, _, _, _, .fr h r, b => by cases b with | fr h' r' => rw [h.uniq h', EnvR.uniq r r']
  | _, _, _, _, _, .pn h r, b => by cases b with | pn h' r' => rw [h.uniq h', EnvR.uniq r r']
  | _, _, _, _, _, .bo h _ r, b => by cases b with | bo h' _ r' => exact EnvR.uniq r r'
/-- more is lent -/
theorem EnvR.wide {F H : Hp} {fb' : List Addr} (hs : ∀ p ∈ fb, p ∈ fb') : ∀ {s0 s : L2.St} {en : Env} {fp : List Addr}, EnvR K F H fb s0 s en fp → EnvR K F H fb' s0 s en fp
  | _, _, _, _, .nil => .nil
  | _, _, _, _, .no r => .no (EnvR.wide hs r)
  | _, _, _, _, .fr h r => .fr h (EnvR.wide hs r)
  | _, _, _, _, .pn h r => .pn h (EnvR.wide hs r)
  | _, _, _, _, .bo h z r => .bo h (fun p hp => hs p (z p hp)) (EnvR.wide hs r)
/-! ### arguments and what comes back -/
inductive ArgsR (K : PySem.W.Frag) (F H : Hp) (fb : List Addr) : List PM → List V → List D → List Addr → Prop
  | nil : ArgsR K F H fb [] [] [] []
  | val {v : V} {vs : List V} {d : D} {ds : List D} {f fp : List Addr} {ms : List PM} : Ro K F H v d f → ArgsR K F H fb ms vs ds fp → ArgsR K F H fb (.val :: ms) (v :: vs) (d :: ds) (f ++ fp)
  | io {v : V} {vs : List V} {d : D} {ds : List D} {f fp : List Addr} {ms : List PM} : Ro K F H v d f → ArgsR K F H fb ms vs ds fp → ArgsR K F H fb (.io :: ms) (v :: vs) (d :: ds) (f ++ fp)
  | bo {v : V} {vs : List V} {d : D} {ds : List D} {f fp : List Addr} {ms : List PM} : Ro K F H v d f → (∀ p ∈ f, p ∈ fb) → ArgsR K F H fb ms vs ds fp → ArgsR K F H fb (.bo :: ms) (v :: vs) (d :: ds) fp
inductive OutR (K : PySem.W.Frag) (F H : Hp) : List PM → List V → List (Option D) → List Addr → Prop
  | nil : OutR K F H [] [] [] []
  | val {v : V} {vs : List V} {os : List (Option D)} {fp : List Addr} {ms : List PM} : OutR K F H ms vs os fp → OutR K F H (.val :: ms) (v :: vs) (none :: os) fp
  | bo {v : V} {vs : List V} {os : List (Option D)} {fp : List Addr} {ms : List PM} : OutR K F H ms vs os fp → OutR K F H (.bo :: ms) (v :: vs) (none :: os) fp
  | io {v : V} {vs : List V} {d : D} {os : List (Option D)} {f fp : List Addr} {ms : List PM} : Ro K F H v d f → OutR K F H ms vs os fp → OutR K F H (.io :: ms) (v :: vs) (some d :: os) (f ++ fp)
theorem ArgsR.len {F H : Hp} : ∀ {ms : List PM} {vs : List V} {ds : List D} {fp : List Addr}, ArgsR K F H fb ms vs ds fp → vs.length = ms.length ∧ ds.length = ms.length
  | _, _, _, _, .nil => ⟨rfl, rfl⟩
  | _, _, _, _, .val _ r => by obtain ⟨a, b⟩ := ArgsR.len r; simp [a, b]
  | _, _, _, _, .io _ r => by obtain ⟨a, b⟩ := ArgsR.len r; simp [a, b]
  | _, _, _, _, .bo _ _ r => by obtain ⟨a, b⟩ := ArgsR.len r; simp [a, b]
theorem ArgsR.dom {F H : Hp} : ∀ {ms : List PM} {vs : List V} {ds : List D} {fp : List Addr}, ArgsR K F H fb ms vs ds fp → ∀ p ∈ fp, H p ≠ none
  | _, _, _, _, .nil, p, hp => by cases hp
  | _, _, _, _, .val h r, p, hp => (List.mem_append.mp hp).elim (h.dom p) (ArgsR.dom r p)
  | _, _, _, _, .io h r, p, hp => (List.mem_append.mp hp).elim (h.dom p) (ArgsR.dom r p)
  | _, _, _, _, .bo _ _ r, p, hp => ArgsR.dom r p hp
end
/-- THE PROMISE of a def: what its evaluation says -/
def FPost (K : PySem.W.Frag) (ms : List PM) (vs : List V) (F H : Hp) (fp fb : List Addr) (r : FRes) (Q : VK) (E : XK) : Prop := match r with
  | .ok d os => ∀ v F' H' fr fo, Go F H fp F' H' (fr ++ fo) → Wd F' H' (fr ++ fo) fb → Ro K F' H' v d fr → OutR K F' H' ms vs os fo → Q v H'
  | .xc c d os => ∀ F' H' fo cls dx, Go F H fp F' H' fo → Wd F' H' fo fb → OutR K F' H' ms vs os fo → cls = Value.ref (caK K c) → XcK K c → (∃ v, F' dx = some (.xd [(sValue, v)]) ∧ Rf K F' v d) → E cls (some dx) H'
  | .bad => False
def spF (K : PySem.W.Frag) (phi : Nat → List PM → List D → FRes) (f : Nat) (ms : List PM) : Sp := fun vs H Q E => ∃ F ds fp fb, Wd F H fp fb ∧ ArgsR K F H fb ms vs ds fp ∧ FPost K ms vs F H fp fb (phi f ms ds) Q E

/-! ### a def that keeps a promise where no guard is up -/
structure RoomZ (hot : Bool) (k : Nat) (A : Around) : Prop where
  hd : hot = false → A.handled = none
  dp : A.depth + 3 * k + 5 < recursionLimit
  un : A.units + 16 * k + 200 < cLine
theorem RoomZ.room {k : Nat} {A : Around} (r : RoomZ false k A) : Room k A := ⟨r.hd rfl, r.dp, r.un⟩
theorem RoomZ.of {hot : Bool} {k : Nat} {A : Around} (r : Room k A) : RoomZ hot k A := ⟨fun _ => r.hd, r.dp, r.un⟩
theorem RoomZ.deeper {hot : Bool} {k : Nat} {A : Around} (r : RoomZ hot (k + 1) A) (env : PySem.Env) : RoomZ hot k (A.deeper env) :=
  ⟨r.hd, by have := r.dp; show A.depth + 1 + 3 * k + 5 < _; omega, by have := r.un; show A.units + 3 + 16 * k + 200 < _; omega⟩
theorem RoomZ.warm {hot : Bool} {k : Nat} {A : Around} (r : RoomZ hot k A) : RoomZ true k A := ⟨fun z => (by cases z), r.dp, r.un⟩
theorem RoomZ.depth {hot : Bool} {k : Nat} {A : Around} (r : RoomZ hot k A) : A.depth < recursionLimit := by have := r.dp; omega
/-- hot: within an except suite, too -/
structure GFn (P : Program) (w : World) (K : PySem.W.Frag) (mg : Str → Option Value) (base : Heap) (hot : Bool) (k : Nat) (f : Addr) (fd : FuncData) (ps : List Str) (sp : Sp) : Prop where
  len : ∀ vs H Q E, sp vs H Q E → vs.length = ps.length
  run : ∀ (A : Around) (outer : List PySem.Env) (s : Shared) (H : Hp) (args : Args) (us : List Value) (vs : List V) (Q : VK) (E : XK), RoomZ hot (k + 1) A → A.guards = some [] → Env0 P w K mg base A outer s H → BindsTo s fd args (ps.zip us) → Vals vs us → sp vs H Q E →
    codeAny (model P w) A (.call (.ref f) args) (CR (L2.CX P w) outer P w H s Q E) s
theorem GFn.cool {P : Program} {w : World} {K : PySem.W.Frag} {mg : Str → Option Value} {base : Heap} {hot : Bool} {k : Nat} {f : Addr} {fd : FuncData} {ps : List Str} {sp : Sp} (F : GFn P w K mg base hot k f fd ps sp) : GFn P w K mg base false k f fd ps sp :=
  ⟨F.len, fun A outer s H args us vs Q E r => F.run A outer s H args us vs Q E ⟨fun _ => r.hd rfl, r.dp, r.un⟩⟩
section
variable {X : Cx} {hot : Bool} {k : Nat} {f : Addr} {fd : FuncData} {ps : List Str} {sp : Sp} {x : Str} {p pos : Pos} {e : Expr} {es : List Expr} {t : TA} {W : WX}
def tCl (sp : Sp) (W : WX) (t : TA) : TE := fun σ H Q => t σ H fun vs H1 => sp vs H1 Q fun cls d H' => W cls d σ H'
theorem run_g {pins : List (Addr × Obj)} {σ : L2.St} {H : Hp} {s : Shared} {Q : VK} {us : List Value} {vs : List V} {args : Args} (F : GFn X.prog X.w X.K X.mg X.base hot k f fd ps sp) (hr : RoomZ hot (k + 1) X.A) (hg : X.A.guards = some []) (hb : BindsTo s fd args (ps.zip us)) (tk : Takes X W)
    (I : L2.Inv X pins σ H s) (r : Vals vs us) (h : sp vs H Q fun cls d H' => W cls d σ H') : codeAny (model X.prog X.w) X.A (.call (.ref f) args) (fun r s' => match r with | .ok (.ret u) => EP X pins σ Q u s' | .ok _ => False | .error e => X.xe e s') s := by
  refine codeAny_mono (F.run X.A X.stack s H args us vs Q _ hr hg I.env0 hb r h) fun r s' hq => ?_
  cases r with
  | error e => exact tk e s' (XE.of_call I (fun _ _ _ h => h) hq)
  | ok fl =>
    cases fl with
    | ret u => exact I.after hq
    | next => exact False.elim hq
    | brk => exact False.elim hq
    | cont => exact False.elim hq
theorem pe_cl (F : GFn X.prog X.w X.K X.mg X.base hot k f fd ps sp) (hr : RoomZ hot (k + 1) X.A) (hgd : X.A.guards = some []) (hg : Gl X x) (hm : X.mg x = some (.ref f)) (hk : PySem.W.keepIn X.K (.ref f) = true) (hb : Binds X.K fd ps []) (tk : Takes X W)
    (ha : PA X (e :: es) t) (hdb : (x == ("__debug__" : Str)) = false) (he : starEach (e :: es) X.env = (false, eval e X.env) :: starEach es X.env) (hpl : (backTo pos (starEach es X.env)).any (·.1) = false) :
    PE X (.Call (.Name x p) (e :: es) [] pos) (tCl sp W t) := by
  refine ⟨fun pins s σ H Q I h => ?_⟩
  refine wpAny_Call_Name_kw (ld_glob I hg hm ?_ hdb)
  refine PySem.W.callWith_K (h₀ := X.base) I.ok.mod.kin hk (thn (ha.run pos pins s σ H _ I h) fun us s1 ⟨vs, H1, I1, r, q⟩ => ⟨I1.kIn, ?_⟩) he hpl
  have hl : us.length = ps.length := by rw [← r.length]; exact F.len _ _ _ _ q
  have hb' := hb s1 us I1.kIn (by rw [List.append_nil]; exact hl)
  rw [List.append_nil] at hb'
  refine wpAny_call (codeAny_mono (run_g F hr hgd hb' tk I1 r q) fun r s' hq => ?_)
  cases r with
  | error e => exact hq
  | ok fl => cases fl <;> first | exact hq | exact hq.elim
def tClK (sp : Sp) (W : WX) (gV : List V → List V → List V) (t tk : TA) : TE := fun σ H Q => t σ H fun vs H1 => tk σ H1 fun zs H2 => sp (gV vs zs) H2 Q fun cls d H' => W cls d σ H'
end

/-! ### calls compute -/
section
variable {C : Cz}
/-- the arguments' values behind their evaluation (σ: the variables) -/
inductive RAr (K : PySem.W.Frag) (σ : L2.St) (F H : Hp) : LA → List V → List D → List Addr → Prop
  | nil : RAr K σ F H .nil [] [] []
  | e {a : LE} {r : LA} {v : V} {vs : List V} {d : D} {ds : List D} {f fp : List Addr} : Ro K F H v d f → RAr K σ F H r vs ds fp → RAr K σ F H (.e a r) (v :: vs) (d :: ds) (f ++ fp)
  | io {i : Nat} {r : LA} {v : V} {vs : List V} {ds : List D} {fp : List Addr} : σ[i]? = some (some v) → RAr K σ F H r vs ds fp → RAr K σ F H (.io i r) (v :: vs) ds fp
  | bo {i : Nat} {r : LA} {v : V} {vs : List V} {ds : List D} {fp : List Addr} : σ[i]? = some (some v) → RAr K σ F H r vs ds fp → RAr K σ F H (.bo i r) (v :: vs) ds fp
def CompA (C : Cz) (la : LA) (t : TA) : Prop := ∀ σ H e F fp Q, EnvR C.K F H C.fb C.s0 σ e fp → Wd F H fp C.fb → Post C (fun F H f v d => RAr C.K σ F H la v d f) (pureA la) F H fp e σ (evA C.phi la e) Q → t σ H Q
theorem RAr.dom {K : PySem.W.Frag} {σ : L2.St} {F H : Hp} : ∀ {la : LA} {v : List V} {d : List D} {fp : List Addr}, RAr K σ F H la v d fp → ∀ p ∈ fp, H p ≠ none
  | _, _, _, _, .nil, p, hp => by cases hp
  | _, _, _, _, .e h r, p, hp => (List.mem_append.mp hp).elim (h.dom p) (RAr.dom r p)
  | _, _, _, _, .io _ r, p, hp => RAr.dom r p hp
  | _, _, _, _, .bo _ r, p, hp => RAr.dom r p hp
theorem ca_nil : CompA C .nil tNil := by
  intro σ H e F fp Q er wd post
  simp only [evA] at post
  exact post [] F H [] fp (.refl F H fp) wd er .nil fun _ => ⟨.refl _, rfl⟩
theorem ca_e {a : LE} {r : LA} {ta : TE} {tr : TA} (ha : CE1 C a ta) (hr : CompA C r tr) (hB : isB a = false) : CompA C (.e a r) (tCons ta tr) := by
  intro σ H e F fp Q er wd post
  simp only [evA] at post
  refine ha.bind er wd post fun x e1 v F1 H1 f fp1 g1 w1 er1 r1 pu1 post1 => ?_
  refine hr σ H1 e1 F1 fp1 _ er1 (w1.less (.dropL _ _)) ?_
  cases hv : evA C.phi r e1 with
  | bad => rw [hv] at post1; exact post1
  | xc c d e' =>
    rw [hv] at post1
    intro F' H' fp' cls dx g' w' er' x'
    obtain ⟨g2, w2, _⟩ := g'.frame w1 r1.dom w'
    exact post1 F' H' fp' cls dx ((g1.trans g2).less fun q hq => List.mem_append_right _ hq) w' er' x'
  | ok xs e2 =>
    rw [hv] at post1
    intro vs F2 H2 g fp2 g2 w2 er2 r2 pu2
    obtain ⟨gf, wf, st⟩ := g2.frame w1 r1.dom w2
    have post2 : Post C (fun F H f v d => RAr C.K σ F H (.e a r) v d f) (pureA (.e a r)) F H fp e σ (.ok (x :: xs) e2) Q := post1
    rw [hB] at r1
    exact post2 (v :: vs) F2 H2 (f ++ g) fp2 (by rw [List.append_assoc]; exact g1.trans gf) (by rw [List.append_assoc]; exact wf) er2 (.e ((show Ro C.K F1 H1 v x f from r1).mono g2.ext st) r2) fun z => by
      simp only [pureA, Bool.and_eq_true] at z
      obtain ⟨s1, q1⟩ := pu1 z.1
      obtain ⟨s2, q2⟩ := pu2 z.2
      exact ⟨s1.trans s2, q2.trans q1⟩
theorem ca_slot {i : Nat} {r la : LA} {tr : TA} (hl : la = .io i r ∨ la = .bo i r) (hr : CompA C r tr) : CompA C la (tCons (tVar i) tr) := by
  intro σ H e F fp Q er wd post
  have ev : evA C.phi la e = (lift (getS e i) e).andThen fun _ e => evA C.phi r e := by rcases hl with rfl | rfl <;> simp only [evA]
  rw [ev, lift_andThen] at post
  cases h : getS e i with
  | none => rw [h] at post; exact post.elim
  | some d =>
    rw [h] at post
    obtain ⟨v, f, hv, ro, _⟩ := er.get h
    refine ⟨v, hv, hr σ H e F fp _ er wd ?_⟩
    have post : Post C (fun F H f v d => RAr C.K σ F H la v d f) (pureA la) F H fp e σ (evA C.phi r e) Q := post
    cases hv2 : evA C.phi r e with
    | bad => rw [hv2] at post; exact post
    | xc c d e' => rw [hv2] at post; exact post
    | ok xs e2 =>
      rw [hv2] at post
      intro vs F2 H2 g fp2 g2 w2 er2 r2 pu2
      refine post (v :: vs) F2 H2 g fp2 g2 w2 er2 ?_ fun z => ?_
      · rcases hl with rfl | rfl
        · exact .io hv r2
        · exact .bo hv r2
      · rcases hl with rfl | rfl
        · simp [pureA] at z
        · exact pu2 (by simpa [pureA] using z)
/-- no object is handed over: all of ours is lent -/
theorem args_bo {K : PySem.W.Frag} {F H : Hp} {fb s0 σ fp e} (er : EnvR K F H fb s0 σ e fp) : ∀ {la : LA} {vs : List V} {xs ds : List D} {f : List Addr}, RAr K σ F H la vs xs f → ioIx la = [] → ioArgs la xs e = some ds → ArgsR K F H (fb ++ fp) (tags la) vs ds f
  | _, _, _, _, _, .nil, _, h => by
    simp only [ioArgs, Option.some.injEq] at h; subst h
    exact .nil
  | _, _, _, _, _, .e ro r, hi, h => by
    simp only [ioArgs, Option.map_eq_some_iff] at h
    obtain ⟨ds', h, rfl⟩ := h
    exact .val ro (args_bo er r (by simpa [ioIx] using hi) h)
  | _, _, _, _, _, .io _ _, hi, _ => by simp [ioIx] at hi
  | _, _, _, _, _, .bo (i := i) hv r, hi, h => by
    simp only [ioArgs, Option.bind_eq_some_iff, Option.map_eq_some_iff] at h
    obtain ⟨d, hd, ds', h, rfl⟩ := h
    obtain ⟨v', f', hv', ro, sub⟩ := er.get hd
    rw [hv] at hv'
    obtain rfl := Option.some.inj (Option.some.inj hv')
    exact .bo ro (fun p hp => by rcases sub p hp with z | z <;> simp [z]) (args_bo er r (by simpa [ioIx] using hi) h)
/-- one object is handed over -/
theorem args_io {K : PySem.W.Frag} {F H : Hp} {fb s0 σ rest e} {i : Nat} {d0 : D} {v0 : V} {f0 : List Addr} (er : EnvR K F H fb s0 σ (blk e i) rest) (h0 : getS e i = some d0) (hv0 : σ[i]? = some (some v0)) (ro0 : Ro K F H v0 d0 f0) :
    ∀ {la : LA} {vs : List V} {xs ds : List D} {f : List Addr}, RAr K σ F H la vs xs f → (∀ j ∈ boIx la, j ≠ i) → ioArgs la xs e = some ds →
      (ioIx la = [] → ArgsR K F H (fb ++ rest) (tags la) vs ds f) ∧ (ioIx la = [i] → ∃ g, ArgsR K F H (fb ++ rest) (tags la) vs ds g ∧ NS g (f0 ++ f))
  | _, _, _, _, _, .nil, _, h => by
    simp only [ioArgs, Option.some.injEq] at h; subst h
    exact ⟨fun _ => .nil, fun z => by simp [ioIx] at z⟩
  | _, _, _, _, _, .e (f := fa) ro r, hb, h => by
    simp only [ioArgs, Option.map_eq_some_iff] at h
    obtain ⟨ds', h, rfl⟩ := h
    obtain ⟨p, q⟩ := args_io er h0 hv0 ro0 r (by simpa [boIx] using hb) h
    refine ⟨fun z => .val ro (p (by simpa [ioIx] using z)), fun z => ?_⟩
    obtain ⟨g, a, n⟩ := q (by simpa [ioIx] using z)
    exact ⟨fa ++ g, .val ro a, (n.left fa).trans (NS.mid ..)⟩
  | _, _, _, _, _, .io (i := j) hv r, hb, h => by
    simp only [ioArgs, Option.bind_eq_some_iff, Option.map_eq_some_iff] at h
    obtain ⟨d, hd, ds', h, rfl⟩ := h
    obtain ⟨p, q⟩ := args_io er h0 hv0 ro0 r (by simpa [boIx] using hb) h
    refine ⟨fun z => by simp [ioIx] at z, fun z => ?_⟩
    simp only [ioIx, List.cons.injEq] at z
    obtain ⟨rfl, z⟩ := z
    rw [h0] at hd
    obtain rfl := Option.some.inj hd
    rw [hv0] at hv
    obtain rfl := Option.some.inj (Option.some.inj hv)
    exact ⟨_, .io ro0 (p z), .refl _⟩
  | _, _, _, _, _, .bo (i := j) hv r, hb, h => by
    simp only [ioArgs, Option.bind_eq_some_iff, Option.map_eq_some_iff] at h
    obtain ⟨d, hd, ds', h, rfl⟩ := h
    simp only [boIx, List.mem_cons, forall_eq_or_imp] at hb
    obtain ⟨p, q⟩ := args_io er h0 hv0 ro0 r hb.2 h
    rw [← blk_get hb.1] at hd
    obtain ⟨v', f', hv', ro, sub⟩ := er.get hd
    rw [hv] at hv'
    obtain rfl := Option.some.inj (Option.some.inj hv')
    have hs : ∀ p ∈ f', p ∈ fb ++ rest := fun p hp => by rcases sub p hp with z | z <;> simp [z]
    refine ⟨fun z => .bo ro hs (p (by simpa [ioIx] using z)), fun z => ?_⟩
    obtain ⟨g, a, n⟩ := q (by simpa [ioIx] using z)
    exact ⟨g, .bo ro hs a, n⟩
theorem out_none {K : PySem.W.Frag} {F H : Hp} : ∀ {la : LA} {vs : List V} {os : List (Option D)} {fo : List Addr}, OutR K F H (tags la) vs os fo → ioIx la = [] → fo = []
  | .nil, _, _, _, .nil, _ => rfl
  | .e _ r, _, _, _, .val o, h => out_none (la := r) o (by simpa [ioIx] using h)
  | .bo _ r, _, _, _, .bo o, h => out_none (la := r) o (by simpa [ioIx] using h)
  | .io _ r, _, _, _, .io _ o, h => by simp [ioIx] at h
theorem out_none_fm {K : PySem.W.Frag} {F H : Hp} : ∀ {la : LA} {vs : List V} {os : List (Option D)} {fo : List Addr}, OutR K F H (tags la) vs os fo → ioIx la = [] → os.filterMap id = []
  | .nil, _, _, _, .nil, _ => rfl
  | .e _ r, _, _, _, .val o, h => by simpa using out_none_fm (la := r) o (by simpa [ioIx] using h)
  | .bo _ r, _, _, _, .bo o, h => by simpa using out_none_fm (la := r) o (by simpa [ioIx] using h)
  | .io _ r, _, _, _, .io _ o, h => by simp [ioIx] at h
theorem out_one {K : PySem.W.Frag} {σ : L2.St} {F H F' H' : Hp} {i : Nat} {v0 : V} (hv0 : σ[i]? = some (some v0)) : ∀ {la : LA} {vs : List V} {xs : List D} {f : List Addr} {os : List (Option D)} {fo : List Addr}, RAr K σ F H la vs xs f → OutR K F' H' (tags la) vs os fo → ioIx la = [i] →
    ∃ d', os.filterMap id = [d'] ∧ Ro K F' H' v0 d' fo
  | .nil, _, _, _, _, _, .nil, .nil, h => by simp [ioIx] at h
  | .e _ r, _, _, _, _, _, .e _ ra, .val o, h => by
    obtain ⟨d', a, b⟩ := out_one hv0 (la := r) ra o (by simpa [ioIx] using h)
    exact ⟨d', by simpa using a, b⟩
  | .bo _ r, _, _, _, _, _, .bo _ ra, .bo o, h => by
    obtain ⟨d', a, b⟩ := out_one hv0 (la := r) ra o (by simpa [ioIx] using h)
    exact ⟨d', by simpa using a, b⟩
  | .io j r, _, _, _, _, _, .io hv ra, .io (d := d) ro o, h => by
    simp only [ioIx, List.cons.injEq] at h
    obtain ⟨rfl, h⟩ := h
    rw [hv0] at hv
    obtain rfl := Option.some.inj (Option.some.inj hv)
    have e1 := out_none o h
    have e2 := out_none_fm o h
    subst e1
    exact ⟨d, by simp [e2], by rw [List.append_nil]; exact ro⟩
theorem fresh_of {K : PySem.W.Frag} {F H F1 H1 : Hp} {fp fa fp1 fb : List Addr} {s0 σ : L2.St} {e e1 : Env} (g : Go F H fp F1 H1 (fa ++ fp1)) (w : Wd F1 H1 (fa ++ fp1) fb) (wd : Wd F H fp fb) (er : EnvR K F H fb s0 σ e fp) (er1 : EnvR K F1 H1 fb s0 σ e1 fp1)
    (s : Same H H1) (q : e1 = e) : ∀ p ∈ fa, H p = none := fun p hp => by
  subst q
  have st : ∀ x, H x ≠ none → H1 x = H x := fun x hx => by
    cases z : H x with
    | none => exact absurd z hx
    | some o => exact s x o z
  have er' := er.mono g.ext (fun x hx => st x (wd.lent x hx).2.2) fun x hx => st x (er.dom x hx)
  have u := er'.uniq er1
  subst u
  rcases g.own p (List.mem_append_left _ hp) with z | z
  · exact absurd z ((nodup_app w.nd).2.2 p hp)
  · exact z
theorem io_has {e : Env} {i : Nat} : ∀ {la : LA} {xs ds : List D}, ioArgs la xs e = some ds → i ∈ ioIx la → ∃ d, getS e i = some d
  | .nil, _, _, _, h => by simp [ioIx] at h
  | .e _ r, [], _, h, _ => by simp [ioArgs] at h
  | .e _ r, x :: xs, _, h, k => by
    simp only [ioArgs, Option.map_eq_some_iff] at h
    obtain ⟨ds', h, _⟩ := h
    exact io_has (la := r) h (by simpa [ioIx] using k)
  | .bo j r, xs, _, h, k => by
    simp only [ioArgs, Option.bind_eq_some_iff, Option.map_eq_some_iff] at h
    obtain ⟨_, _, ds', h, _⟩ := h
    exact io_has (la := r) h (by simpa [ioIx] using k)
  | .io j r, xs, _, h, k => by
    simp only [ioArgs, Option.bind_eq_some_iff, Option.map_eq_some_iff] at h
    obtain ⟨d, hd, ds', h, _⟩ := h
    simp only [ioIx, List.mem_cons] at k
    rcases k with rfl | k
    · exact ⟨d, hd⟩
    · exact io_has (la := r) h k
theorem pure_noio : ∀ {la : LA} {i : Nat} {r : List Nat}, ioIx la = i :: r → pureA la = false
  | .nil, _, _, h => by simp [ioIx] at h
  | .e a r, _, _, h => by simp [pureA, pure_noio (la := r) (by simpa [ioIx] using h)]
  | .bo _ r, _, _, h => by simpa [pureA] using pure_noio (la := r) (by simpa [ioIx] using h)
  | .io _ r, _, _, h => rfl
theorem back_own {e e' : Env} {i : Nat} {os : List (Option D)} (h : backS [i] os e = some e') : own? e i = true := by
  have h : (match os.filterMap id with
    | [d] => putS e i d
    | _ => none) = some e' := h
  split at h
  · exact put_own h
  · cases h
/-- the call of a def -/
theorem comp_call {f : Nat} {es : LA} {t : TA} (h : CompA C es t) : CE1 C (.call f es) (tCl (spF C.K C.phi f (tags es)) C.W t) := by
  intro σ H e F fp Q er wd post
  simp only [evE] at post
  refine h σ H e F fp _ er wd ?_
  cases hv : evA C.phi es e with
  | bad => rw [hv] at post; exact post
  | xc c d e' => rw [hv] at post; exact post
  | ok xs e1 =>
    rw [hv] at post
    intro vs F1 H1 fa fp1 g1 w1 er1 r1 pu1
    have post1 : Post C (RV C.K false) (pureE (.call f es)) F H fp e σ (runCall C.phi f es xs e1) Q := post
    unfold runCall at post1
    cases hio : ioArgs es xs e1 with
    | none => simp only [hio] at post1; exact post1.elim
    | some ds =>
      simp only [hio] at post1
      split at post1
      case isFalse => exact post1.elim
      rename_i hc
      have dmA := r1.dom
      -- what is common: behind the call, the rest of ours stands
      have core : ∀ (fpc rest : List Addr), Wd F1 H1 (fpc ++ rest) C.fb → (∀ q ∈ fpc ++ rest, q ∈ fa ++ fp1) → (∀ q ∈ fa ++ fp1, q ∈ fpc ++ rest) → (∀ q ∈ rest, H1 q ≠ none) →
          Wd F1 H1 fpc (C.fb ++ rest) ∧ ∀ F2 H2 E2, Go F1 H1 fpc F2 H2 E2 → Wd F2 H2 E2 (C.fb ++ rest) → Go F H fp F2 H2 (E2 ++ rest) ∧ Wd F2 H2 (E2 ++ rest) C.fb ∧ (∀ q ∈ rest, H2 q = H1 q) ∧ (∀ q ∈ C.fb, H2 q = H1 q) := by
        intro fpc rest w hs1 hs2 dmR
        obtain ⟨n1, n2, n3⟩ := nodup_app w.nd
        refine ⟨⟨w.ext, n1, fun q hq => w.un q (List.mem_append_left _ hq), fun q hq => ?_⟩, fun F2 H2 E2 g2 w2 => ?_⟩
        · rcases List.mem_append.mp hq with z | z
          · obtain ⟨a, b, c⟩ := w.lent q z
            exact ⟨fun y => a (List.mem_append_left _ y), b, c⟩
          · exact ⟨fun y => n3 q y z, w.un q (List.mem_append_right _ z), dmR q z⟩
        · have keepR : ∀ q ∈ rest, H2 q = H1 q := fun q hq => by
            cases e : H1 q with
            | none => exact absurd e (dmR q hq)
            | some o => exact g2.keep q o e fun y => n3 q y hq
          have keepB : ∀ q ∈ C.fb, H2 q = H1 q := fun q hq => by
            obtain ⟨a, b, c⟩ := w.lent q hq
            cases e : H1 q with
            | none => exact absurd e c
            | some o => exact g2.keep q o e fun y => a (List.mem_append_left _ y)
          refine ⟨g1.trans ⟨g2.ext, fun q o e n => g2.keep q o e fun y => n (hs1 q (List.mem_append_left _ y)), fun q hq => ?_, fun q e n => g2.frz q e fun y => n (hs1 q (List.mem_append_left _ y))⟩, ⟨w2.ext, ?_, fun q hq => ?_, fun q hq => ?_⟩, keepR, keepB⟩
          · rcases List.mem_append.mp hq with z | z
            · rcases g2.own q z with y | y
              · exact .inl (hs1 q (List.mem_append_left _ y))
              · exact .inr y
            · exact .inl (hs1 q (List.mem_append_right _ z))
          · rw [List.nodup_append]
            exact ⟨w2.nd, n2, fun x hx y hy e => by subst e; exact (w2.lent x (List.mem_append_right _ hy)).1 hx⟩
          · rcases List.mem_append.mp hq with z | z
            · exact w2.un q z
            · exact (w2.lent q (List.mem_append_right _ z)).2.1
          · obtain ⟨a, b, c⟩ := w2.lent q (List.mem_append_left _ hq)
            refine ⟨fun y => ?_, b, c⟩
            rcases List.mem_append.mp y with z | z
            · exact a z
            · exact (w.lent q hq).1 (List.mem_append_right _ z)
      match hx : ioIx es, hc with
      | [], hc =>
        obtain ⟨wc, back⟩ := core fa fp1 w1 (fun _ h => h) (fun _ h => h) er1.dom
        refine ⟨F1, ds, fa, C.fb ++ fp1, wc, args_bo er1 r1 hx hio, ?_⟩
        cases hf : C.phi f (tags es) ds with
        | bad => simp only [hf] at post1; exact post1
        | ok d os =>
          simp only [hf, hx, backS, lift_andThen] at post1
          intro v F2 H2 fr fo g2 w2 ro o2
          have e0 := out_none o2 hx
          subst e0
          rw [List.append_nil] at g2 w2
          obtain ⟨gg, ww, kR, kB⟩ := back F2 H2 fr g2 w2
          exact Post.ret (C := C) post1 gg ww (.refl _) (er1.mono g2.ext kB kR) ro fun z => by
            simp only [pureE] at z
            obtain ⟨s1, q1⟩ := pu1 z
            refine ⟨fun q o hq => ?_, q1⟩
            by_cases m : q ∈ fa
            · rw [fresh_of g1 w1 wd er er1 s1 q1 q m] at hq; cases hq
            · exact g2.keep q o (s1 q o hq) m
        | xc c d os =>
          simp only [hf, hx, backS, lift_andThen] at post1
          intro F2 H2 fo cls dx g2 w2 o2 hcls hxk hd
          have e0 := out_none o2 hx
          subst e0
          obtain ⟨gg, ww, kR, kB⟩ := back F2 H2 [] g2 w2
          exact post1 F2 H2 fp1 cls dx gg ww (er1.mono g2.ext kB kR) ⟨hcls, hxk, hd⟩
      | [i], hc =>
        obtain ⟨d0, h0⟩ := io_has hio (by rw [hx]; exact List.mem_singleton.mpr rfl)
        cases ho : own? e1 i with
        | false =>
          have nb : ∀ os, backS [i] os e1 = none := fun os => by
            cases z : backS [i] os e1 with
            | none => rfl
            | some e' => rw [back_own z] at ho; cases ho
          cases hf : C.phi f (tags es) ds with
          | bad => simp only [hf] at post1; exact post1.elim
          | ok d os => simp only [hf, hx, nb, lift_andThen] at post1; exact post1.elim
          | xc c d os => simp only [hf, hx, nb, lift_andThen] at post1; exact post1.elim
        | true =>
          obtain ⟨v0, f0, rest, hv0, ro0, erb, ns1, ns2, refill⟩ := er1.blank h0 ho
          have hbo : ∀ j ∈ boIx es, j ≠ i := fun j hj z => by
            have := hc.2 j hj
            exact this (by rw [z]; exact List.mem_singleton.mpr rfl)
          obtain ⟨g, ar, ng⟩ := (args_io erb h0 hv0 ro0 r1 hbo hio).2 hx
          have big : NS ((f0 ++ fa) ++ rest) (fa ++ fp1) := by
            refine (NS.right rest (NS.swap f0 fa)).trans ?_
            rw [List.append_assoc]
            exact ns1.left fa
          obtain ⟨wc, back⟩ := core (f0 ++ fa) rest (w1.less big) big.1 (fun q hq => by
            rcases List.mem_append.mp hq with z | z
            · exact List.mem_append_left _ (List.mem_append_right _ z)
            · rcases List.mem_append.mp (ns2 q z) with z | z
              · exact List.mem_append_left _ (List.mem_append_left _ z)
              · exact List.mem_append_right _ z) erb.dom
          refine ⟨F1, ds, g, C.fb ++ rest, wc.less ng, ar, ?_⟩
          have erw : EnvR C.K F1 H1 C.fb C.s0 σ (blk e1 i) rest := erb
          cases hf : C.phi f (tags es) ds with
          | bad => simp only [hf] at post1; exact post1
          | ok d os =>
            simp only [hf, hx, lift_andThen] at post1
            intro v F2 H2 fr fo g2 w2 ro o2
            obtain ⟨d', hos, ro'⟩ := out_one hv0 r1 o2 hx
            obtain ⟨gg, ww, kR, kB⟩ := back F2 H2 (fr ++ fo) (g2.more ng.1) w2
            cases hp : putS e1 i d' with
            | none =>
              have hb : backS [i] os e1 = none := by simp only [backS, hos, hp]
              rw [hb] at post1; exact post1.elim
            | some e2 =>
              have hb : backS [i] os e1 = some e2 := by simp only [backS, hos, hp]
              simp only [hb] at post1
              obtain ⟨fp', er2, nf⟩ := refill (erw.mono g2.ext kB kR) ro' hp
              rw [List.append_assoc] at gg ww
              exact Post.ret (C := C) post1 gg ww (nf.left fr) er2 ro fun z => by
                simp only [pureE] at z
                exact absurd z (by rw [pure_noio hx]; exact Bool.false_ne_true)
          | xc c d os =>
            simp only [hf, hx, lift_andThen] at post1
            intro F2 H2 fo cls dx g2 w2 o2 hcls hxk hd
            obtain ⟨d', hos, ro'⟩ := out_one hv0 r1 o2 hx
            obtain ⟨gg, ww, kR, kB⟩ := back F2 H2 fo (g2.more ng.1) w2
            cases hp : putS e1 i d' with
            | none =>
              have hb : backS [i] os e1 = none := by simp only [backS, hos, hp]
              rw [hb] at post1; exact post1.elim
            | some e2 =>
              have hb : backS [i] os e1 = some e2 := by simp only [backS, hos, hp]
              simp only [hb] at post1
              obtain ⟨fp', er2, nf⟩ := refill (erw.mono g2.ext kB kR) ro' hp
              exact post1 F2 H2 fp' cls dx (gg.less nf.1) (ww.less nf) er2 ⟨hcls, hxk, hd⟩
      | _ :: _ :: _, hc => simp at hc
end
end Z

set_option Elab.async false
set_option linter.all false
set_option maxRecDepth 100000
set_option maxHeartbeats 4000000
/-! Z8: places in a variable's object; what changes them. -/
namespace Z
open PySem L2

/-- the values that lie in an object -/
def Box (H : Hp) (a : Addr) (xs : List V) : Prop := (H a = some (.lst xs) ∨ H a = some (.tup xs)) ∨ ∃ ks : List (List Nat), ks.length = xs.length ∧ H a = some (.dK (kvL ks xs))
theorem kvL_snd : ∀ {ks : List (List Nat)} {xs : List V}, ks.length = xs.length → (kvL ks xs).map Prod.snd = xs
  | [], [], _ => rfl
  | [], _ :: _, h => by simp at h
  | _ :: _, [], h => by simp at h
  | k :: ks, x :: xs, h => by
    have := kvL_snd (ks := ks) (xs := xs) (by simpa using h)
    simp only [kvL, List.zipWith_cons_cons, List.map_cons] at this ⊢
    rw [this]
theorem Box.mono {H H' : Hp} (e : Same H H') {a : Addr} {xs : List V} (h : Box H a xs) : Box H' a xs := by
  rcases h with h | ⟨ks, hl, h⟩
  · exact .inl (h.imp (e a _) (e a _))
  · exact .inr ⟨ks, hl, e a _ h⟩
theorem Box.det {H : Hp} {a : Addr} {xs ys : List V} (h : Box H a xs) (k : Box H a ys) : xs = ys := by
  rcases h with h | ⟨ks, hl, h⟩ <;> rcases k with k | ⟨js, kl, k⟩
  · rcases h with h | h <;> rcases k with k | k <;> rw [h] at k <;> cases k <;> rfl
  · rcases h with h | h <;> rw [h] at k <;> cases k
  · rcases k with k | k <;> rw [h] at k <;> cases k
  · rw [h] at k
    injection k with k
    injection k with k
    rw [← kvL_snd hl, ← kvL_snd kl, k]
/-- the way from a value to one of its parts -/
def Reach (H : Hp) : V → List Stp → V → Prop
  | v, [], y => v = y
  | v, .at j :: r, y => ∃ a xs z, v = .ref a ∧ Box H a xs ∧ xs[j]? = some z ∧ Reach H z r y
  | _, .fl _ :: _, _ => False
theorem Reach.snoc {H : Hp} : ∀ {v : V} {ps : List Stp} {a : Addr} {xs : List V} {j : Nat} {z : V}, Reach H v ps (.ref a) → Box H a xs → xs[j]? = some z → Reach H v (ps ++ [.at j]) z
  | v, [], a, xs, j, z, h, k, m => ⟨a, xs, z, h, k, m, rfl⟩
  | v, .at i :: r, a, xs, j, z, h, k, m => by
    obtain ⟨b, ys, w, h1, h2, h3, h4⟩ := h
    exact ⟨b, ys, w, h1, h2, h3, Reach.snoc h4 k m⟩
  | v, .fl f :: r, a, xs, j, z, h, k, m => h.elim
theorem Reach.mono {H H' : Hp} (e : Same H H') : ∀ {v : V} {ps : List Stp} {y : V}, Reach H v ps y → Reach H' v ps y
  | v, [], y, h => h
  | v, .at i :: r, y, h => by
    obtain ⟨b, ys, w, h1, h2, h3, h4⟩ := h
    exact ⟨b, ys, w, h1, h2.mono e, h3, Reach.mono e h4⟩
  | v, .fl f :: r, y, h => h.elim
theorem Reach.det {H : Hp} : ∀ {v : V} {ps : List Stp} {y z : V}, Reach H v ps y → Reach H v ps z → y = z
  | v, [], y, z, h, k => h.symm.trans k
  | v, .at i :: r, y, z, h, k => by
    obtain ⟨b, ys, w, h1, h2, h3, h4⟩ := h
    obtain ⟨b', ys', w', k1, k2, k3, k4⟩ := k
    rw [h1] at k1
    cases k1
    have e : ys = ys' := h2.det k2
    subst e
    rw [h3] at k3
    cases k3
    exact h4.det k4
  | v, .fl f :: r, y, z, h, k => h.elim
section
variable {K : PySem.W.Frag} {fb : List Addr}
theorem Ro.focus {F H : Hp} : ∀ (ps : List Stp) {v : V} {d x : D} {fp : List Addr}, Ro K F H v d fp → subD d ps = some x →
    ∃ y f rest, Reach H v ps y ∧ Ro K F H y x f ∧ NS (f ++ rest) fp ∧ (∀ p ∈ fp, p ∈ f ++ rest) ∧
      ∀ {F' H' : Hp} {x' d' : D} {f' : List Addr}, Same F F' → (∀ p ∈ rest, H' p = H p) → Ro K F' H' y x' f' → updD d ps x' = some d' → ∃ fp', Ro K F' H' v d' fp' ∧ NS fp' (f' ++ rest)
  | [], v, d, x, fp, r, h => by
    simp only [subD, Option.some.injEq] at h; subst h
    refine ⟨v, fp, [], rfl, r, by rw [List.append_nil]; exact .refl _, fun p hp => List.mem_append_left _ hp, fun eF kr ro hu => ?_⟩
    simp only [updD, Option.some.injEq] at hu; subst hu
    exact ⟨_, ro, by rw [List.append_nil]; exact .refl _⟩
  | .fl f :: ps, v, d, x, fp, r, h => by
    cases d <;> simp only [subD, reduceCtorEq] at h
    cases r with
    | frz r => cases r
  | .at j :: ps, v, d, x, fp, r, h => by
    cases d <;> simp only [subD, reduceCtorEq] at h
    case lst m ds =>
      cases m with
      | false => simp at h
      | true =>
        simp only [if_true, Option.bind_eq_some_iff] at h
        obtain ⟨c, hc, h⟩ := h
        cases r with
        | frz r => have := r.fzn; simp [fzn] at this
        | lst ha rs =>
          rename_i a xs fp0
          obtain ⟨z, f1, rest1, hz, rz, n1, n1', m1⟩ := rs.set hc
          obtain ⟨y, f, rest2, re, ry, n2, n2', m2⟩ := Ro.focus ps rz h
          refine ⟨y, f, a :: (rest2 ++ rest1), ⟨a, xs, z, rfl, .inl (.inl ha), hz, re⟩, ry, ?_, fun p hp => ?_, fun {F' H' x' d' f'} eF kr ro hu => ?_⟩
          · refine (NS.perm (List.perm_middle ..)).trans ?_
            have : NS (f ++ (rest2 ++ rest1)) fp0 := by
              rw [← List.append_assoc]
              exact (n2.right rest1).trans n1
            exact this.left [a]
          · rcases List.mem_cons.mp hp with q | q
            · rw [q]; exact List.mem_append_right _ (List.mem_cons_self ..)
            · rcases List.mem_append.mp (n1' p q) with q | q
              · rcases List.mem_append.mp (n2' p q) with q | q
                · exact List.mem_append_left _ q
                · exact List.mem_append_right _ (List.mem_cons_of_mem _ (List.mem_append_left _ q))
              · exact List.mem_append_right _ (List.mem_cons_of_mem _ (List.mem_append_right _ q))
          · simp only [updD, if_true, hc, Option.bind_some, Option.map_eq_some_iff] at hu
            obtain ⟨c', hc', rfl⟩ := hu
            obtain ⟨f2, rc, k2⟩ := m2 eF (fun p hp => kr p (List.mem_cons_of_mem _ (List.mem_append_left _ hp))) ro hc'
            obtain ⟨fp', rr, k1, _⟩ := m1 eF (fun p hp => kr p (List.mem_cons_of_mem _ (List.mem_append_right _ hp))) rc
            rw [set_same hz] at rr
            refine ⟨a :: fp', .lst ((kr a (List.mem_cons_self ..)).trans ha) rr, ?_⟩
            refine NS.trans ?_ (NS.perm (List.perm_middle ..).symm)
            have : NS fp' (f' ++ (rest2 ++ rest1)) := by
              rw [← List.append_assoc]
              exact k1.trans (k2.right rest1)
            exact this.left [a]
    case tup m ds =>
      cases m with
      | false => simp at h
      | true =>
        simp only [if_true, Option.bind_eq_some_iff] at h
        obtain ⟨c, hc, h⟩ := h
        cases r with
        | frz r => have := r.fzn; simp [fzn] at this
        | tup ha rs =>
          rename_i a xs fp0
          obtain ⟨z, f1, rest1, hz, rz, n1, n1', m1⟩ := rs.set hc
          obtain ⟨y, f, rest2, re, ry, n2, n2', m2⟩ := Ro.focus ps rz h
          refine ⟨y, f, a :: (rest2 ++ rest1), ⟨a, xs, z, rfl, .inl (.inr ha), hz, re⟩, ry, ?_, fun p hp => ?_, fun {F' H' x' d' f'} eF kr ro hu => ?_⟩
          · refine (NS.perm (List.perm_middle ..)).trans ?_
            have : NS (f ++ (rest2 ++ rest1)) fp0 := by
              rw [← List.append_assoc]
              exact (n2.right rest1).trans n1
            exact this.left [a]
          · rcases List.mem_cons.mp hp with q | q
            · rw [q]; exact List.mem_append_right _ (List.mem_cons_self ..)
            · rcases List.mem_append.mp (n1' p q) with q | q
              · rcases List.mem_append.mp (n2' p q) with q | q
                · exact List.mem_append_left _ q
                · exact List.mem_append_right _ (List.mem_cons_of_mem _ (List.mem_append_left _ q))
              · exact List.mem_append_right _ (List.mem_cons_of_mem _ (List.mem_append_right _ q))
          · simp only [updD, if_true, hc, Option.bind_some, Option.map_eq_some_iff] at hu
            obtain ⟨c', hc', rfl⟩ := hu
            obtain ⟨f2, rc, k2⟩ := m2 eF (fun p hp => kr p (List.mem_cons_of_mem _ (List.mem_append_left _ hp))) ro hc'
            obtain ⟨fp', rr, k1, _⟩ := m1 eF (fun p hp => kr p (List.mem_cons_of_mem _ (List.mem_append_right _ hp))) rc
            rw [set_same hz] at rr
            refine ⟨a :: fp', .tup ((kr a (List.mem_cons_self ..)).trans ha) rr, ?_⟩
            refine NS.trans ?_ (NS.perm (List.perm_middle ..).symm)
            have : NS fp' (f' ++ (rest2 ++ rest1)) := by
              rw [← List.append_assoc]
              exact k1.trans (k2.right rest1)
            exact this.left [a]
    case dic ks ds =>
      simp only [Option.bind_eq_some_iff] at h
      obtain ⟨c, hc, h⟩ := h
      cases r with
      | frz r => cases r
      | dic ha hl hn rs =>
        rename_i a xs fp0
        obtain ⟨z, f1, rest1, hz, rz, n1, n1', m1⟩ := rs.set hc
        obtain ⟨y, f, rest2, re, ry, n2, n2', m2⟩ := Ro.focus ps rz h
        refine ⟨y, f, a :: (rest2 ++ rest1), ⟨a, xs, z, rfl, .inr ⟨ks, by rw [hl, rs.len], ha⟩, hz, re⟩, ry, ?_, fun p hp => ?_, fun {F' H' x' d' f'} eF kr ro hu => ?_⟩
        · refine (NS.perm (List.perm_middle ..)).trans ?_
          have : NS (f ++ (rest2 ++ rest1)) fp0 := by
            rw [← List.append_assoc]
            exact (n2.right rest1).trans n1
          exact this.left [a]
        · rcases List.mem_cons.mp hp with q | q
          · rw [q]; exact List.mem_append_right _ (List.mem_cons_self ..)
          · rcases List.mem_append.mp (n1' p q) with q | q
            · rcases List.mem_append.mp (n2' p q) with q | q
              · exact List.mem_append_left _ q
              · exact List.mem_append_right _ (List.mem_cons_of_mem _ (List.mem_append_left _ q))
            · exact List.mem_append_right _ (List.mem_cons_of_mem _ (List.mem_append_right _ q))
        · simp only [updD, hc, Option.bind_some, Option.map_eq_some_iff] at hu
          obtain ⟨c', hc', rfl⟩ := hu
          obtain ⟨f2, rc, k2⟩ := m2 eF (fun p hp => kr p (List.mem_cons_of_mem _ (List.mem_append_left _ hp))) ro hc'
          obtain ⟨fp', rr, k1, _⟩ := m1 eF (fun p hp => kr p (List.mem_cons_of_mem _ (List.mem_append_right _ hp))) rc
          rw [set_same hz] at rr
          refine ⟨a :: fp', .dic ((kr a (List.mem_cons_self ..)).trans ha) (by rw [hl]; simp) hn rr, ?_⟩
          refine NS.trans ?_ (NS.perm (List.perm_middle ..).symm)
          have : NS fp' (f' ++ (rest2 ++ rest1)) := by
            rw [← List.append_assoc]
            exact k1.trans (k2.right rest1)
          exact this.left [a]
/-- a variable's object at a place -/
theorem EnvR.focus {F H : Hp} {s0 s : L2.St} {en : Env} {fp : List Addr} {i : Nat} {ps : List Stp} {x : D} (er : EnvR K F H fb s0 s en fp) (h : getP en i ps = some x) :
    ∃ v0 y f, s[i]? = some (some v0) ∧ Reach H v0 ps y ∧ Ro K F H y x f ∧
      ∀ {x1 : D} {en1 : Env}, putP en i ps x1 = some en1 → ∃ rest, NS (f ++ rest) fp ∧ (∀ p ∈ fp, p ∈ f ++ rest) ∧
        ∀ {F' H' : Hp} {x' : D} {f' : List Addr} {en' : Env}, Same F F' → (∀ p ∈ rest, H' p = H p) → (∀ p ∈ fb, H' p = H p) → Ro K F' H' y x' f' → putP en i ps x' = some en' → ∃ fp', EnvR K F' H' fb s0 s en' fp' ∧ NS fp' (f' ++ rest) := by
  unfold getP at h
  rw [Option.bind_eq_some_iff] at h
  obtain ⟨d, hd, hx⟩ := h
  obtain ⟨v0, g, hv, ro, _⟩ := er.get hd
  obtain ⟨y, f, rest, re, ry, _⟩ := Ro.focus ps ro hx
  refine ⟨v0, y, f, hv, re, ry, fun {x1 en1} hp => ?_⟩
  unfold putP at hp
  simp only [hd, Option.bind_some, Option.bind_eq_some_iff] at hp
  obtain ⟨z, hz, hp⟩ := hp
  obtain ⟨v0', g', rest1, hv', ro', erb, n1, n1', refill⟩ := er.blank hd (put_own hp)
  rw [hv] at hv'
  obtain rfl := Option.some.inj (Option.some.inj hv')
  obtain ⟨y', f2, rest2, re', ry', n2, n2', m2⟩ := Ro.focus ps ro' hx
  obtain rfl := re.det re'
  obtain rfl := ry.uniq ry'
  refine ⟨rest2 ++ rest1, ?_, fun p hp => ?_, fun {F' H' x' f' en'} eF kr kb rx hpp => ?_⟩
  · rw [← List.append_assoc]
    exact (n2.right rest1).trans n1
  · rcases List.mem_append.mp (n1' p hp) with q | q
    · rcases List.mem_append.mp (n2' p q) with q | q
      · exact List.mem_append_left _ q
      · exact List.mem_append_right _ (List.mem_append_left _ q)
    · exact List.mem_append_right _ (List.mem_append_right _ q)
  · unfold putP at hpp
    simp only [hd, Option.bind_some, Option.bind_eq_some_iff] at hpp
    obtain ⟨z', hz', hpp⟩ := hpp
    obtain ⟨f3, rd, k3⟩ := m2 eF (fun p hp => kr p (List.mem_append_left _ hp)) rx hz'
    obtain ⟨fp', er', k4⟩ := refill (erb.mono eF kb fun p hp => kr p (List.mem_append_right _ hp)) rd hpp
    refine ⟨fp', er', k4.trans ?_⟩
    rw [← List.append_assoc]
    exact k3.right rest1
end

/-! ### the reading of a place -/
def rIxP (K : PySem.W.Frag) : R2 := fun x y H Q => (∃ a xs i v, x = .ref a ∧ y = .int i ∧ (H a = some (.lst xs) ∨ H a = some (.tup xs)) ∧ atI xs i = some v ∧ Q v H) ∨ ∃ a v, x = .ref a ∧ DGet H a y (some v) ∧ Q v H
theorem op_ixP {X : Cx} (hu : X.A.units + 1 < cLine) : IxR X (rIxP X.K) := by
  intro value slice pins s σ H x y v u Q I rx ry h hs
  rcases h with h | h
  case inr => exact ix_dic hu value slice pins s σ H x y v u Q I rx ry h hs
  obtain ⟨a, xs, i, w, e1, e2, h1, h2, q⟩ := h
  rcases h1 with h1 | h1
  · exact ix_list value slice pins s σ H x y v u Q I rx ry ⟨a, xs, i, w, e1, e2, SqL.of h1, h2, q⟩ hs
  · exact ix_tup value slice pins s σ H x y v u Q I rx ry ⟨a, xs, i, w, e1, e2, SqT.of h1, h2, q⟩ hs
section
variable {C : Cz}
def CompP (C : Cz) (p : LP) (t : TE) : Prop := ∀ σ H e F fp Q, EnvR C.K F H C.fb C.s0 σ e fp → Wd F H fp C.fb →
  Post C (fun _ H f v q => f = [] ∧ ∃ v0, σ[q.1]? = some (some v0) ∧ Reach H v0 q.2 v) true F H fp e σ (evP C.phi p e) Q → t σ H Q
theorem cp_s {i : Nat} : CompP C (.s i) (tVar i) := by
  intro σ H e F fp Q er wd post
  simp only [evP, lift_andThen] at post
  cases h : getS e i with
  | none => rw [h] at post; exact post.elim
  | some d =>
    rw [h] at post
    obtain ⟨v, f, hv, ro, _⟩ := er.get h
    exact ⟨v, hv, post v F H [] fp (.refl F H fp) wd er ⟨rfl, v, hv, rfl⟩ fun _ => ⟨.refl _, rfl⟩⟩
theorem cp_ix {p : LP} {a : LE} {tp ta : TE} (hp : CompP C p tp) (ha : CE1 C a ta) (hpu : pureE a = true) : CompP C (.ix p a) (tOp (rIxP C.K) tp ta) := by
  intro σ H e F fp Q er wd post
  simp only [evP] at post
  refine hp σ H e F fp _ er wd ?_
  cases hv : evP C.phi p e with
  | bad => rw [hv] at post; exact post
  | xc c d e' => rw [hv] at post; exact post
  | ok q e1 =>
    rw [hv] at post
    intro v F1 H1 f fp1 g1 w1 er1 r1 pu1
    obtain ⟨hf, v0, hv0, re1⟩ := r1
    subst hf
    obtain ⟨s1, q1⟩ := pu1 rfl
    refine ha σ H1 e1 F1 fp1 _ er1 w1 ?_
    have post1 : Post C _ true F H fp e σ ((evE C.phi a e1).andThen fun k e => (lift (getP e q.1 q.2) e).andThen fun d e => match itemsT? d, k with
      | some xs, .int k => (lift (ixP xs.length k) e).andThen fun j e => if j < xs.length then .ok (q.1, q.2 ++ [.at j]) e else .bad
      | none, .str s => (match d with
        | .dic ks xs => (lift (keyI ks s) e).andThen fun j e => if j < xs.length then .ok (q.1, q.2 ++ [.at j]) e else .bad
        | _ => .bad)
      | _, _ => .bad) Q := post
    cases hv2 : evE C.phi a e1 with
    | bad => rw [hv2] at post1; exact post1
    | xc c d e' =>
      rw [hv2] at post1
      intro F' H' fp' cls dx g' w' er' x'
      exact post1 F' H' fp' cls dx (g1.trans g') w' er' x'
    | ok k e2 =>
      rw [hv2] at post1
      intro w F2 H2 g fp2 g2 w2 er2 r2 pu2
      obtain ⟨s2, q2⟩ := pu2 hpu
      obtain ⟨f2, ro2⟩ := r2.ro
      simp only [Res.andThen] at post1
      cases hg : getP e2 q.1 q.2 with
      | none => simp only [hg, lift] at post1; exact post1.elim
      | some d =>
        simp only [hg, lift] at post1
        obtain ⟨v0', y, fy, hv0', re, ry, _⟩ := er2.focus hg
        rw [hv0] at hv0'
        obtain rfl := Option.some.inj (Option.some.inj hv0')
        obtain rfl := (re1.mono s2).det re
        cases hi : itemsT? d with
        | none =>
          simp only [hi] at post1
          cases k <;> simp only [] at post1 <;> first | exact post1.elim | skip
          rename_i s
          cases d <;> simp only [] at post1 <;> first | exact post1.elim | skip
          rename_i ks ds
          cases hj : keyI ks s with
          | none => simp only [hj] at post1; exact post1.elim
          | some j =>
            simp only [hj] at post1
            by_cases hl : j < ds.length
            · rw [if_pos hl] at post1
              obtain ⟨c, hc⟩ : ∃ c, ds[j]? = some c := ⟨ds[j], by simp [hl]⟩
              cases ry with
              | frz r => cases r
              | @dic a _ ws _ fp0 ha hn hd rs =>
                obtain ⟨z, fz, hz, _, _⟩ := rs.get hc
                have dg := DGet.k (k := .inr ⟨s.toArray⟩) ha
                rw [valV_kvL hj, hz] at dg
                have ey : w = kV (.inr ⟨s.toArray⟩) := ro2.str_inv
                rw [← ey] at dg
                refine .inr ⟨a, z, rfl, dg, ?_⟩
                refine post1 z F2 H2 [] fp2 ((g1.trans g2).less fun q hq => List.mem_append_right _ hq) (w2.less (.dropL _ _)) er2 ⟨rfl, v0, hv0, ?_⟩ fun _ => ⟨s1.trans s2, q2.trans q1⟩
                exact Reach.snoc (a := a) re (.inr ⟨ks, by rw [hn, rs.len], ha⟩) hz
            · rw [if_neg hl] at post1; exact post1.elim
        | some xs =>
          simp only [hi] at post1
          cases k <;> simp only [] at post1 <;> first | exact post1.elim | skip
          rename_i k
          cases hj : ixP xs.length k with
          | none => simp only [hj] at post1; exact post1.elim
          | some j =>
            simp only [hj] at post1
            by_cases hl : j < xs.length
            · rw [if_pos hl] at post1
              obtain ⟨c, hc⟩ : ∃ c, xs[j]? = some c := ⟨xs[j], by simp [hl]⟩
              have fin : ∀ (b : Addr) (ys : List V) (gg : List Addr), v = .ref b → (H2 b = some (.lst ys) ∨ H2 b = some (.tup ys)) → Ros C.K F2 H2 ys xs gg → tOp (rIxP C.K) (fun _ _ k => k v H2) (fun _ _ k => k w H2) σ H2 Q := fun b ys gg hb hH rs => by
                obtain ⟨z, fz, hz, _, _⟩ := rs.get hc
                refine .inl ⟨b, ys, k, z, hb, ro2.int_inv, hH, ?_, ?_⟩
                · unfold atI
                  rw [rs.len, ← ixP_eq, hj]
                  exact hz
                · refine post1 z F2 H2 [] fp2 ((g1.trans g2).less fun q hq => List.mem_append_right _ hq) (w2.less (.dropL _ _)) er2 ⟨rfl, v0, hv0, ?_⟩ fun _ => ⟨s1.trans s2, q2.trans q1⟩
                  exact Reach.snoc (a := b) (by rw [← hb]; exact re) (.inl hH) hz
              cases d <;> simp only [itemsT?, reduceCtorEq] at hi
              case tup m ds =>
                cases m with
                | false => simp at hi
                | true =>
                  simp only [if_true, Option.some.injEq] at hi; subst hi
                  cases ry with
                  | frz r => have := r.fzn; simp [fzn] at this
                  | tup hH rs => exact fin _ _ _ rfl (.inr hH) rs
              case lst m ds =>
                cases m with
                | false => simp at hi
                | true =>
                  simp only [if_true, Option.some.injEq] at hi; subst hi
                  cases ry with
                  | frz r => have := r.fzn; simp [fzn] at this
                  | lst hH rs => exact fin _ _ _ rfl (.inl hH) rs
            · rw [if_neg hl] at post1; exact post1.elim
/-! ### a place's list changes -/
/-- behind the path: the list that stands there, and how another one is put in its place -/
theorem lst_at {F H : Hp} {fb s0 σ e fp} {K : PySem.W.Frag} (er : EnvR K F H fb s0 σ e fp) (wd : Wd F H fp fb) {i : Nat} {ps : List Stp} {v0 v : V} (hv0 : σ[i]? = some (some v0)) (re : Reach H v0 ps v) {xs : List D} (hg : getP e i ps = some (.lst true xs)) :
    ∃ a ys f, v = .ref a ∧ H a = some (.lst ys) ∧ Ros K F H ys xs f ∧ (∀ p ∈ f, p ∈ fp ∨ p ∈ fb) ∧
      ∀ {zs : List D} {e' : Env}, putP e i ps (.lst true zs) = some e' → a ∈ fp ∧
        ∀ (T fT : List Addr) (ws : List V), Wd F H (T ++ fp) fb → (∀ q ∈ T, H q ≠ none) → Ros K F (upd H a (.lst ws)) ws zs fT → (∃ fr, NS (fT ++ fr) (T ++ f)) → 
          ∃ fp', EnvR K F (upd H a (.lst ws)) fb s0 σ e' fp' ∧ (∀ fr, NS (fT ++ fr) (T ++ f) → NS (fr ++ fp') (T ++ fp)) := by
  obtain ⟨v0', y, fy, hv0', re', ry, m⟩ := er.focus hg
  rw [hv0] at hv0'
  obtain rfl := Option.some.inj (Option.some.inj hv0')
  obtain rfl := re.det re'
  cases ry with
  | frz r => have := r.fzn; simp [fzn] at this
  | lst hH rs =>
    rename_i a ys f
    have sub : ∀ p ∈ f, p ∈ fp ∨ p ∈ fb := by
      unfold getP at hg
      rw [Option.bind_eq_some_iff] at hg
      obtain ⟨d, hd, hx⟩ := hg
      obtain ⟨v1, g, hv1, ro, sb⟩ := er.get hd
      rw [hv0] at hv1
      obtain rfl := Option.some.inj (Option.some.inj hv1)
      obtain ⟨y, f2, rest, re2, ry2, n1, n2, _⟩ := Ro.focus ps ro hx
      obtain rfl := re.det re2
      have := ry2.uniq (.lst hH rs)
      subst this
      exact fun p hp => sb p (n1.1 p (List.mem_append_left _ (List.mem_cons_of_mem _ hp)))
    refine ⟨a, ys, f, rfl, hH, rs, sub, fun {zs e'} hp => ?_⟩
    obtain ⟨rest, ns, ns', refill⟩ := m hp
    have haf : a ∈ fp := ns.1 a (by simp)
    refine ⟨haf, fun T fT ws wT dT rw' hex => ?_⟩
    have nd := ns.2 wd.nd
    rw [List.cons_append, List.nodup_cons] at nd
    have hafb : a ∉ fb := fun z => (wd.lent a z).1 haf
    have haT : a ∉ T := fun z => (nodup_app wT.nd).2.2 a z haf
    obtain ⟨fr0, hfr0⟩ := hex
    have hafT : a ∉ fT := fun z => by
      rcases List.mem_append.mp (hfr0.1 a (List.mem_append_left _ z)) with q | q
      · exact haT q
      · exact nd.1 (List.mem_append_left _ q)
    obtain ⟨fp', er', k⟩ := refill (F' := F) (H' := upd H a (.lst ws)) (f' := a :: fT) (.refl _) (fun p hp => upd_ne fun z => nd.1 (by rw [← z]; exact List.mem_append_right _ hp)) (fun p hp => upd_ne fun z => hafb (by rw [← z]; exact hp)) (.lst upd_same rw') hp
    refine ⟨fp', er', fun fr hfr => ?_⟩
    -- fr ++ fp' from T ++ fp
    refine (k.left fr).trans ?_
    refine NS.trans ?_ (ns.left T)
    rw [List.cons_append, List.cons_append]
    refine (NS.perm (List.perm_middle ..)).trans (NS.trans ?_ (NS.perm (List.perm_middle ..).symm))
    have : NS (fr ++ (fT ++ rest)) (T ++ (f ++ rest)) := by
      rw [← List.append_assoc, ← List.append_assoc]
      exact ((NS.swap fr fT).trans hfr).right rest
    exact this.left [a]
/-- behind the path: the dict that stands there, and how other values are put in its place -/
theorem dic_at {F H : Hp} {fb s0 σ e fp} {K : PySem.W.Frag} (er : EnvR K F H fb s0 σ e fp) (wd : Wd F H fp fb) {i : Nat} {ps : List Stp} {v0 v : V} (hv0 : σ[i]? = some (some v0)) (re : Reach H v0 ps v) {ks : List (List Nat)} {xs : List D} (hg : getP e i ps = some (.dic ks xs)) :
    ∃ a ys f, v = .ref a ∧ H a = some (.dK (kvL ks ys)) ∧ ks.length = xs.length ∧ ks.Nodup ∧ Ros K F H ys xs f ∧ (∀ p ∈ f, p ∈ fp ∨ p ∈ fb) ∧
      ∀ {zs : List D} {e' : Env}, putP e i ps (.dic ks zs) = some e' → a ∈ fp ∧
        ∀ (T fT : List Addr) (ws : List V), zs.length = xs.length → Wd F H (T ++ fp) fb → (∀ q ∈ T, H q ≠ none) → Ros K F (upd H a (.dK (kvL ks ws))) ws zs fT → (∃ fr, NS (fT ++ fr) (T ++ f)) → 
          ∃ fp', EnvR K F (upd H a (.dK (kvL ks ws))) fb s0 σ e' fp' ∧ (∀ fr, NS (fT ++ fr) (T ++ f) → NS (fr ++ fp') (T ++ fp)) := by
  obtain ⟨v0', y, fy, hv0', re', ry, m⟩ := er.focus hg
  rw [hv0] at hv0'
  obtain rfl := Option.some.inj (Option.some.inj hv0')
  obtain rfl := re.det re'
  cases ry with
  | frz r => cases r
  | dic hH hl hn rs =>
    rename_i a ys f
    have sub : ∀ p ∈ f, p ∈ fp ∨ p ∈ fb := by
      unfold getP at hg
      rw [Option.bind_eq_some_iff] at hg
      obtain ⟨d, hd, hx⟩ := hg
      obtain ⟨v1, g, hv1, ro, sb⟩ := er.get hd
      rw [hv0] at hv1
      obtain rfl := Option.some.inj (Option.some.inj hv1)
      obtain ⟨y, f2, rest, re2, ry2, n1, n2, _⟩ := Ro.focus ps ro hx
      obtain rfl := re.det re2
      have := ry2.uniq (.dic hH hl hn rs)
      subst this
      exact fun p hp => sb p (n1.1 p (List.mem_append_left _ (List.mem_cons_of_mem _ hp)))
    refine ⟨a, ys, f, rfl, hH, hl, hn, rs, sub, fun {zs e'} hp => ?_⟩
    obtain ⟨rest, ns, ns', refill⟩ := m hp
    have haf : a ∈ fp := ns.1 a (by simp)
    refine ⟨haf, fun T fT ws hz wT dT rw' hex => ?_⟩
    have nd := ns.2 wd.nd
    rw [List.cons_append, List.nodup_cons] at nd
    have hafb : a ∉ fb := fun z => (wd.lent a z).1 haf
    have haT : a ∉ T := fun z => (nodup_app wT.nd).2.2 a z haf
    obtain ⟨fr0, hfr0⟩ := hex
    have hafT : a ∉ fT := fun z => by
      rcases List.mem_append.mp (hfr0.1 a (List.mem_append_left _ z)) with q | q
      · exact haT q
      · exact nd.1 (List.mem_append_left _ q)
    obtain ⟨fp', er', k⟩ := refill (F' := F) (H' := upd H a (.dK (kvL ks ws))) (f' := a :: fT) (.refl _) (fun p hp => upd_ne fun z => nd.1 (by rw [← z]; exact List.mem_append_right _ hp)) (fun p hp => upd_ne fun z => hafb (by rw [← z]; exact hp)) (.dic upd_same (by rw [hl, hz]) hn rw') hp
    refine ⟨fp', er', fun fr hfr => ?_⟩
    -- fr ++ fp' from T ++ fp
    refine (k.left fr).trans ?_
    refine NS.trans ?_ (ns.left T)
    rw [List.cons_append, List.cons_append]
    refine (NS.perm (List.perm_middle ..)).trans (NS.trans ?_ (NS.perm (List.perm_middle ..).symm))
    have : NS (fr ++ (fT ++ rest)) (T ++ (f ++ rest)) := by
      rw [← List.append_assoc, ← List.append_assoc]
      exact ((NS.swap fr fT).trans hfr).right rest
    exact this.left [a]
/-- behind the path: the dict with tuples as keys that stands there, and how another one is put in its place -/
theorem td_at {F H : Hp} {fb s0 σ e fp} {K : PySem.W.Frag} (er : EnvR K F H fb s0 σ e fp) (wd : Wd F H fp fb) {i : Nat} {ps : List Stp} {v0 v : V} (hv0 : σ[i]? = some (some v0)) (re : Reach H v0 ps v) {ks xs : List D} (hg : getP e i ps = some (.td ks xs)) :
    ∃ a as vs, v = .ref a ∧ Ro K F H v (.td ks xs) [a] ∧ H a = some (tdO a ks as vs) ∧
      ∀ {z : D} {e' : Env}, putP e i ps z = some e' → a ∈ fp ∧
        ∀ (o : HO), Ro K F (upd H a o) (.ref a) z [a] → ∃ fp', EnvR K F (upd H a o) fb s0 σ e' fp' ∧ NS fp' fp := by
  obtain ⟨v0', y, fy, hv0', re', ry, m⟩ := er.focus hg
  rw [hv0] at hv0'
  obtain rfl := Option.some.inj (Option.some.inj hv0')
  obtain rfl := re.det re'
  have ry0 := ry
  cases ry with
  | frz r => cases r
  | @td a _ _ as vs hH r1 h1 h2 h3 h4 r2 h5 =>
    refine ⟨a, as, vs, rfl, ry0, hH, fun {z e'} hp => ?_⟩
    obtain ⟨rest, ns, ns', refill⟩ := m hp
    have haf : a ∈ fp := ns.1 a (by simp)
    refine ⟨haf, fun o ro => ?_⟩
    have nd := ns.2 wd.nd
    rw [List.cons_append, List.nodup_cons] at nd
    have hafb : a ∉ fb := fun z => (wd.lent a z).1 haf
    obtain ⟨fp', er', k⟩ := refill (F' := F) (H' := upd H a o) (f' := [a]) (.refl _) (fun p hp => upd_ne fun z => nd.1 (by rw [← z]; exact hp)) (fun p hp => upd_ne fun z => hafb (by rw [← z]; exact hp)) ro hp
    exact ⟨fp', er', k.trans ns⟩
end
end Z

set_option Elab.async false
set_option linter.all false
set_option maxRecDepth 100000
set_option maxHeartbeats 4000000
/-! Z9: append, pop; statements. -/
namespace Z
open PySem L2

section
variable {K : PySem.W.Frag}
theorem Ros.drop1 {F H : Hp} : ∀ {vs : List V} {ds : List D} {f : List Addr} {j : Nat} {x : D}, Ros K F H vs ds f → ds[j]? = some x →
    ∃ y g g', vs[j]? = some y ∧ Ro K F H y x g ∧ Ros K F H (vs.eraseIdx j) (ds.eraseIdx j) g' ∧ NS (g' ++ g) f
  | _, _, _, _, _, .nil, h => by simp at h
  | _, _, _, 0, _, .cons (f := f) (fp := fp) h r, e => by
    simp at e; subst e
    exact ⟨_, f, fp, rfl, h, r, .swap _ _⟩
  | _, _, _, j + 1, _, .cons (f := f) (fp := fp) h r, e => by
    obtain ⟨y, g, g', a, b, c, n⟩ := Ros.drop1 (j := j) r (by simpa using e)
    exact ⟨y, g, f ++ g', by simpa using a, b, .cons h c, by rw [List.append_assoc]; exact n.left f⟩
theorem erase_last {α : Type} : ∀ (l : List α), l.eraseIdx (l.length - 1) = l.dropLast
  | [] => rfl
  | [x] => rfl
  | x :: y :: l => by
    have := erase_last (y :: l)
    show x :: (y :: l).eraseIdx l.length = x :: (y :: l).dropLast
    rw [← this] <;> rfl
end
section
variable {C : Cz}
theorem upd_same_of {H : Hp} {a q : Addr} {o : HO} (h : q ≠ a) : upd H a o q = H q := upd_ne h
theorem tyV_list {K : PySem.W.Frag} {a : Addr} {xs : List V} {H : Hp} (h : H a = some (.lst xs)) : tyV K "list" (.ref a) H := Or.inl ⟨rfl, _, Or.inl (Or.inl h)⟩
theorem comp_app {p : LP} {a : LE} {tp ta : TE} (hp : CompP C p tp) (ha : CE1 C a ta) (hB : isB a = false) (hpp : (∃ i, p = .s i) ∨ pureE a = true) : CE1 C (.app p a) (tBM C.K "list" rAppend tp (tCons ta tNil)) := by
  intro σ H e F fp Q er wd post
  simp only [evE] at post
  refine hp σ H e F fp _ er wd ?_
  cases hv : evP C.phi p e with
  | bad => rw [hv] at post; exact post
  | xc c d e' => rw [hv] at post; exact post
  | ok q e1 =>
    rw [hv] at post
    intro v F1 H1 f fp1 g1 w1 er1 r1 pu1
    obtain ⟨hf, v0, hv0, re1⟩ := r1
    subst hf
    have g1 : Go F H fp F1 H1 fp1 := g1
    have w1 : Wd F1 H1 fp1 C.fb := w1
    obtain ⟨s1, q1⟩ := pu1 rfl
    simp only [Res.andThen] at post
    cases hg : getP e1 q.1 q.2 with
    | none => simp only [hg, lift] at post; exact post.elim
    | some d =>
      simp only [hg, lift] at post
      cases d <;> first | exact False.elim post | skip
      rename_i m ds
      cases m <;> first | exact False.elim post | skip
      simp only [] at post
      obtain ⟨a0, ys0, _, rfl, hH0, _⟩ := lst_at er1 w1 hv0 re1 hg
      refine ⟨tyV_list hH0, ?_⟩
      refine ha σ H1 e1 F1 fp1 _ er1 w1 ?_
      cases hv2 : evE C.phi a e1 with
      | bad => simp only [hv2] at post; exact post
      | xc c d e' =>
        simp only [hv2] at post
        intro F' H' fp' cls dx g' w' er' x'
        exact post F' H' fp' cls dx (g1.trans g') w' er' x'
      | ok x e2 =>
        simp only [hv2] at post
        intro w F2 H2 f2 fp2 g2 w2 er2 r2 pu2
        rw [hB] at r2
        have ro2 : Ro C.K F2 H2 w x f2 := r2
        cases hg2 : getP e2 q.1 q.2 with
        | none => simp only [hg2] at post; exact post.elim
        | some d =>
          simp only [hg2] at post
          cases d <;> first | exact False.elim post | skip
          rename_i m xs
          cases m <;> first | exact False.elim post | skip
          simp only [] at post
          have re2 : Reach H2 v0 q.2 (.ref a0) := by
            rcases hpp with ⟨i, rfl⟩ | hpu
            · simp only [evP, lift_andThen] at hv
              cases hgi : getS e i with
              | none => simp only [hgi] at hv; cases hv
              | some d' => simp only [hgi] at hv; cases hv; exact re1
            · exact re1.mono (pu2 hpu).1
          by_cases hz : xs.length < sizeL
          · rw [if_pos hz] at post
            obtain ⟨a1, ys, f, ea, hH, rs, _, m⟩ := lst_at er2 (w2.less (.dropL _ _)) hv0 re2 hg2
            cases ea
            cases hpt : putP e2 q.1 q.2 (.lst true (xs ++ [x])) with
            | none => simp only [hpt] at post; exact post.elim
            | some e3 =>
              simp only [hpt] at post
              obtain ⟨haf, m⟩ := m hpt
              have dT := ro2.dom
              have n2 := nodup_app w2.nd
              have haT : a0 ∉ f2 := fun z => n2.2.2 a0 z haf
              have hex : NS ((f ++ (f2 ++ [])) ++ []) (f2 ++ f) := by
                rw [List.append_nil, List.append_nil]
                exact .swap _ _
              have haF : a0 ∉ f := by
                have re2' := er2.focus hg2
                obtain ⟨v0', y, fy, hv0', re', ry, mm⟩ := re2'
                rw [hv0] at hv0'
                obtain rfl := Option.some.inj (Option.some.inj hv0')
                obtain rfl := re2.det re'
                obtain ⟨rest, ns, _⟩ := mm hpt
                have := ry.uniq (.lst hH rs)
                subst this
                have nd := ns.2 (w2.less (.dropL _ _)).nd
                rw [List.cons_append, List.nodup_cons] at nd
                exact fun z => nd.1 (List.mem_append_left _ z)
              have rs' : Ros C.K F2 (upd H2 a0 (.lst (ys ++ [w]))) (ys ++ [w]) (xs ++ [x]) (f ++ (f2 ++ [])) :=
                (rs.mono (.refl _) fun p hp => upd_ne fun z => haF (by rw [← z]; exact hp)).app (.cons (ro2.mono (.refl _) fun p hp => upd_ne fun z => haT (by rw [← z]; exact hp)) .nil)
              obtain ⟨fp', er3, k⟩ := m f2 _ (ys ++ [w]) w2 dT rs' ⟨[], hex⟩
              have k := k [] hex
              refine ⟨a0, ys, w, rfl, rfl, hH, by rw [rs.len, ← sizeL_eq]; exact hz, ?_⟩
              have hin : a0 ∈ f2 ++ fp2 := List.mem_append_right _ haf
              exact Post.retS (C := C) (b := false) post ((g1.trans g2).trans (Go.write hin)) (w2.write hin) k er3 .non fun z => by
                simp [pureE] at z
          · rw [if_neg hz] at post; exact post.elim
/-- insert, extend -/
def rMm (m : Mm) : V → List V → Hp → VK → Prop := match m with
  | .insert => fun x vs H Q => ∃ (l : Addr) (xs : List V) (i : Int) (y : V), x = .ref l ∧ vs = [.int i, y] ∧ H l = some (.lst xs) ∧ xs.length < sizeLine ∧ 0 ≤ i ∧ i < 2 ^ 63 ∧ Q .non (upd H l (.lst (xs.take i.toNat ++ [y] ++ xs.drop i.toNat)))
  | .extend => rExtend
def mmName : Mm → Str
  | .insert => "insert"
  | .extend => "extend"
theorem Ros.take {K : PySem.W.Frag} {F H : Hp} : ∀ {v : List V} {d : List D} {f : List Addr} (n : Nat), Ros K F H v d f → ∃ g h, Ros K F H (v.take n) (d.take n) g ∧ Ros K F H (v.drop n) (d.drop n) h ∧ g ++ h = f
  | _, _, f, 0, r => ⟨[], f, .nil, r, rfl⟩
  | _, _, _, n + 1, .nil => ⟨[], [], .nil, .nil, rfl⟩
  | _, _, _, n + 1, .cons (f := f) h r => by
    obtain ⟨g, k, a, b, e⟩ := Ros.take n r
    exact ⟨f ++ g, k, .cons h a, b, by rw [List.append_assoc, e]⟩
/-- what the machine makes of a list by such a method -/
theorem mm_ros {m : Mm} {K : PySem.W.Frag} {F H : Hp} {a0 : Addr} {ys : List V} {xs zs : List D} {vs : List V} {ds : List D} {f g : List Addr} {d : D} (hH : H a0 = some (.lst ys)) (rs : Ros K F H ys xs f) (ra : Ros K F H vs ds g) (h : mmop m xs ds = some (zs, d)) (hf : a0 ∉ f) (hg : a0 ∉ g) :
    ∃ ws h0 rest, d = .non ∧ (∀ Q : VK, Q .non (upd H a0 (.lst ws)) → rMm m (.ref a0) vs H Q) ∧ Ros K F (upd H a0 (.lst ws)) ws zs h0 ∧ NS (h0 ++ rest) (g ++ f) := by
  have mo : ∀ {v : List V} {d : List D} {f : List Addr} {o : HO}, Ros K F H v d f → a0 ∉ f → Ros K F (upd H a0 o) v d f := fun r n => r.mono (.refl _) fun p hp => upd_ne fun z => n (by rw [← z]; exact hp)
  cases m with
  | insert =>
    unfold mmop at h
    split at h <;> first | (cases h; done) | (rename_i hq; cases hq; done) | skip
    rename_i i y hq
    split at h
    · rename_i hc
      simp only [Option.some.injEq, Prod.mk.injEq] at h
      obtain ⟨rfl, rfl⟩ := h
      cases ra with
      | cons r1 t =>
        cases t with
        | cons r2 t =>
          cases t with
          | nil =>
            rename_i v1 f1 v2 f2
            obtain ⟨g1, g2, a, b, e⟩ := Ros.take i.toNat rs
            subst e
            have hg2 : a0 ∉ f2 := fun z => hg (by simp [z])
            have hf1 : a0 ∉ g1 := fun z => hf (List.mem_append_left _ z)
            have hf2 : a0 ∉ g2 := fun z => hf (List.mem_append_right _ z)
            refine ⟨ys.take i.toNat ++ [v2] ++ ys.drop i.toNat, g1 ++ (f2 ++ []) ++ g2, f1, rfl, fun Q q => ?_, ?_, ?_⟩
            · exact ⟨a0, ys, i, v2, rfl, by rw [r1.int_inv], hH, by rw [rs.len, ← sizeL_eq]; exact hc.1, hc.2.1, hc.2.2, q⟩
            · have r2' := mo (o := .lst (ys.take i.toNat ++ [v2] ++ ys.drop i.toNat)) (.cons r2 .nil) (by simpa using hg2)
              exact ((mo a hf1).app r2').app (mo b hf2)
            · refine .perm ?_
              rw [List.perm_iff_count]
              intro x
              simp only [List.count_append, List.count_nil]
              omega
    · cases h
  | extend =>
    unfold mmop at h
    split at h <;> first | (cases h; done) | (rename_i hq; cases hq; done) | skip
    rename_i ys' hq
    split at h
    · rename_i hc
      simp only [Option.some.injEq, Prod.mk.injEq] at h
      obtain ⟨rfl, rfl⟩ := h
      cases ra with
      | cons r1 t =>
        cases t with
        | nil =>
          rename_i v1 f1
          cases r1 with
          | frz r => have := r.fzn; simp [fzn] at this
          | lst hB rb =>
            rename_i b ws fb
            have hgb : a0 ∉ fb := fun z => hg (by simp [z])
            refine ⟨ys ++ ws, f ++ fb, [b], rfl, fun Q q => ?_, (mo rs hf).app (mo rb hgb), ?_⟩
            · exact ⟨a0, b, ys, ws, rfl, rfl, hH, hB, by rw [rs.len, rb.len, ← sizeL_eq]; exact hc, q⟩
            · refine .perm ?_
              rw [List.perm_iff_count]
              intro x
              simp only [List.count_append, List.count_cons, List.count_nil]
              omega
    · cases h
theorem comp_mm {m : Mm} {p : LP} {es : LL} {tp : TE} {t : TA} (hp : CompP C p tp) (hes : Comp C (RL2 C.K) (pureL es) t (evL C.phi es)) (hpp : (∃ i, p = .s i) ∨ pureL es = true) : CE1 C (.mm m p es) (tBM C.K "list" (rMm m) tp t) := by
  intro σ H e F fp Q er wd post
  simp only [evE] at post
  refine hp σ H e F fp _ er wd ?_
  cases hv : evP C.phi p e with
  | bad => rw [hv] at post; exact post
  | xc c d e' => rw [hv] at post; exact post
  | ok q e1 =>
    rw [hv] at post
    intro v F1 H1 f fp1 g1 w1 er1 r1 pu1
    obtain ⟨hf, v0, hv0, re1⟩ := r1
    subst hf
    have g1 : Go F H fp F1 H1 fp1 := g1
    have w1 : Wd F1 H1 fp1 C.fb := w1
    obtain ⟨s1, q1⟩ := pu1 rfl
    simp only [Res.andThen] at post
    cases hg : getP e1 q.1 q.2 with
    | none => simp only [hg, lift] at post; exact post.elim
    | some d =>
      simp only [hg, lift] at post
      cases d <;> first | exact False.elim post | skip
      rename_i mm ds
      cases mm <;> first | exact False.elim post | skip
      simp only [] at post
      obtain ⟨a0, ys0, _, rfl, hH0, _⟩ := lst_at er1 w1 hv0 re1 hg
      refine ⟨tyV_list hH0, ?_⟩
      refine hes σ H1 e1 F1 fp1 _ er1 w1 ?_
      cases hv2 : evL C.phi es e1 with
      | bad => simp only [hv2] at post; exact post
      | xc c d e' =>
        simp only [hv2] at post
        intro F' H' fp' cls dx g' w' er' x'
        exact post F' H' fp' cls dx (g1.trans g') w' er' x'
      | ok xs' e2 =>
        simp only [hv2] at post
        intro w F2 H2 f2 fp2 g2 w2 er2 r2 pu2
        have ro2 : Ros C.K F2 H2 w xs' f2 := r2
        cases hg2 : getP e2 q.1 q.2 with
        | none => simp only [hg2] at post; exact post.elim
        | some d =>
          simp only [hg2] at post
          cases d <;> first | exact False.elim post | skip
          rename_i mm xs
          cases mm <;> first | exact False.elim post | skip
          simp only [] at post
          have re2 : Reach H2 v0 q.2 (.ref a0) := by
            rcases hpp with ⟨i, rfl⟩ | hpu
            · simp only [evP, lift_andThen] at hv
              cases hgi : getS e i with
              | none => simp only [hgi] at hv; cases hv
              | some d' => simp only [hgi] at hv; cases hv; exact re1
            · exact re1.mono (pu2 hpu).1
          cases hm : mmop m xs xs' with
          | none => simp only [hm] at post; exact post.elim
          | some zz =>
            obtain ⟨zs, dd⟩ := zz
            simp only [hm] at post
            obtain ⟨a1, ys, f, ea, hH, rs, _, mk⟩ := lst_at er2 (w2.less (.dropL _ _)) hv0 re2 hg2
            cases ea
            cases hpt : putP e2 q.1 q.2 (.lst true zs) with
            | none => simp only [hpt] at post; exact post.elim
            | some e3 =>
              simp only [hpt] at post
              obtain ⟨haf, mk⟩ := mk hpt
              have dT := ro2.dom
              have n2 := nodup_app w2.nd
              have haT : a0 ∉ f2 := fun z => n2.2.2 a0 z haf
              have haF : a0 ∉ f := by
                have re2' := er2.focus hg2
                obtain ⟨v0', y, fy, hv0', re', ry, mm⟩ := re2'
                rw [hv0] at hv0'
                obtain rfl := Option.some.inj (Option.some.inj hv0')
                obtain rfl := re2.det re'
                obtain ⟨rest, ns, _⟩ := mm hpt
                have := ry.uniq (.lst hH rs)
                subst this
                have nd := ns.2 (w2.less (.dropL _ _)).nd
                rw [List.cons_append, List.nodup_cons] at nd
                exact fun z => nd.1 (List.mem_append_left _ z)
              obtain ⟨ws, h0, rest, rfl, rule, rs', hex⟩ := mm_ros hH rs ro2 hm haF haT
              obtain ⟨fp', er3, k⟩ := mk f2 _ ws w2 dT rs' ⟨rest, hex⟩
              have k := k rest hex
              refine rule _ ?_
              have hin : a0 ∈ f2 ++ fp2 := List.mem_append_right _ haf
              exact Post.retS (C := C) (b := false) post ((g1.trans g2).trans (Go.write hin)) (w2.write hin) ((NS.dropL rest fp').trans k) er3 .non fun z => by
                simp [pureE] at z
theorem comp_pop {p : LP} {tp : TE} (hp : CompP C p tp) : CE1 C (.pop p) (tBM0 C.K "list" rPop tp) := by
  intro σ H e F fp Q er wd post
  simp only [evE] at post
  refine hp σ H e F fp _ er wd ?_
  cases hv : evP C.phi p e with
  | bad => rw [hv] at post; exact post
  | xc c d e' => rw [hv] at post; exact post
  | ok q e1 =>
    rw [hv] at post
    intro v F1 H1 f fp1 g1 w1 er1 r1 pu1
    obtain ⟨hf, v0, hv0, re1⟩ := r1
    subst hf
    have g1 : Go F H fp F1 H1 fp1 := g1
    have w1 : Wd F1 H1 fp1 C.fb := w1
    simp only [Res.andThen] at post
    cases hg : getP e1 q.1 q.2 with
    | none => simp only [hg, lift] at post; exact post.elim
    | some d =>
      simp only [hg, lift] at post
      cases d <;> first | exact False.elim post | skip
      rename_i m xs
      cases m <;> first | exact False.elim post | skip
      simp only [] at post
      obtain ⟨a0, ys, f, rfl, hH, rs, _, m⟩ := lst_at er1 w1 hv0 re1 hg
      refine ⟨tyV_list hH, ?_⟩
      cases hl : xs.getLast? with
      | none => simp only [hl] at post; exact post.elim
      | some x =>
        simp only [hl] at post
        have hx : xs[xs.length - 1]? = some x := by rw [← List.getLast?_eq_getElem?]; exact hl
        obtain ⟨y, g, g', hy, ry, rs', n⟩ := rs.drop1 hx
        cases hpt : putP e1 q.1 q.2 (.lst true xs.dropLast) with
        | none => simp only [hpt] at post; exact post.elim
        | some e3 =>
          simp only [hpt] at post
          obtain ⟨haf, m⟩ := m hpt
          have haF : a0 ∉ f := by
            obtain ⟨v0', y, fy, hv0', re', ry, mm⟩ := er1.focus hg
            rw [hv0] at hv0'
            obtain rfl := Option.some.inj (Option.some.inj hv0')
            obtain rfl := re1.det re'
            obtain ⟨rest, ns, _⟩ := mm hpt
            have := ry.uniq (.lst hH rs)
            subst this
            have nd := ns.2 w1.nd
            rw [List.cons_append, List.nodup_cons] at nd
            exact fun z => nd.1 (List.mem_append_left _ z)
          have ne : ∀ q ∈ f, upd H1 a0 (.lst ys.dropLast) q = H1 q := fun q hq => upd_ne fun z => haF (by rw [← z]; exact hq)
          rw [erase_last] at rs'
          have el : ys.eraseIdx (xs.length - 1) = ys.dropLast := by rw [← rs.len]; exact erase_last ys
          rw [el] at rs'
          have rs'' := rs'.mono (F' := F1) (H' := upd H1 a0 (.lst ys.dropLast)) (.refl _) fun q hq => ne q (n.1 q (List.mem_append_left _ hq))
          obtain ⟨fp', er3, k⟩ := m [] g' ys.dropLast w1 (fun _ h => nomatch h) rs'' ⟨g, n⟩
          refine ⟨a0, ys, y, rfl, rfl, hH, by rw [rs.len]; exact hy, ?_⟩
          exact Post.ret (C := C) (f := g) (fp' := fp') post (g1.trans (Go.write haf)) (w1.write haf) (k g n) er3 (ry.mono (.refl _) fun q hq => ne q (n.1 q (List.mem_append_right _ hq))) fun z => by
            simp [pureE] at z
theorem comp_popi {p : LP} {a : LE} {tp ta : TE} (hp : CompP C p tp) (ha : CE1 C a ta) (hpu : pureE a = true) : CE1 C (.popi p a) (tBM C.K "list" rPopAt tp (tCons ta tNil)) := by
  intro σ H e F fp Q er wd post
  simp only [evE] at post
  refine hp σ H e F fp _ er wd ?_
  cases hv : evP C.phi p e with
  | bad => rw [hv] at post; exact post
  | xc c d e' => rw [hv] at post; exact post
  | ok q e1 =>
    rw [hv] at post
    intro v F1 H1 f fp1 g1 w1 er1 r1 pu1
    obtain ⟨hf, v0, hv0, re1⟩ := r1
    subst hf
    have g1 : Go F H fp F1 H1 fp1 := g1
    have w1 : Wd F1 H1 fp1 C.fb := w1
    simp only [Res.andThen] at post
    cases hg : getP e1 q.1 q.2 with
    | none => simp only [hg, lift] at post; exact post.elim
    | some d =>
      simp only [hg, lift] at post
      cases d <;> first | exact False.elim post | skip
      rename_i m xs
      cases m <;> first | exact False.elim post | skip
      simp only [] at post
      obtain ⟨a0, ys0, _, rfl, hH0, _⟩ := lst_at er1 w1 hv0 re1 hg
      refine ⟨tyV_list hH0, ?_⟩
      refine ha σ H1 e1 F1 fp1 _ er1 w1 ?_
      cases hv2 : evE C.phi a e1 with
      | bad => simp only [hv2] at post; exact post
      | xc c d e' =>
        simp only [hv2] at post
        intro F' H' fp' cls dx g' w' er' x'
        exact post F' H' fp' cls dx (g1.trans g') w' er' x'
      | ok k e2 =>
        simp only [hv2] at post
        intro w F2 H2 f2 fp2 g2 w2 er2 r2 pu2
        obtain ⟨s2, q2⟩ := pu2 hpu
        subst q2
        obtain ⟨f2', ro2⟩ := r2.ro
        have re2 : Reach H2 v0 q.2 (.ref a0) := re1.mono s2
        have w2' := w2.less (NS.dropL f2 fp2)
        have g2' : Go F1 H1 fp1 F2 H2 fp2 := g2.less fun q hq => List.mem_append_right _ hq
        obtain ⟨a1, ys, f, ea, hH, rs, _, m⟩ := lst_at er2 w2' hv0 re2 hg
        cases ea
        cases k <;> first | exact False.elim post | skip
        rename_i k
        simp only [] at post
        split at post
        case isFalse => exact post.elim
        rename_i hz
        cases hj : ixP xs.length k with
        | none => simp only [hj] at post; exact post.elim
        | some j =>
          simp only [hj] at post
          cases hx : xs[j]? with
          | none => simp only [hx] at post; exact post.elim
          | some x =>
            simp only [hx] at post
            obtain ⟨y, g, g', hy, ry, rs', n⟩ := rs.drop1 hx
            cases hpt : putP e2 q.1 q.2 (.lst true (xs.eraseIdx j)) with
            | none => simp only [hpt] at post; exact post.elim
            | some e3 =>
              simp only [hpt] at post
              obtain ⟨haf, m⟩ := m hpt
              have haF : a0 ∉ f := by
                obtain ⟨v0', y, fy, hv0', re', ry, mm⟩ := er2.focus hg
                rw [hv0] at hv0'
                obtain rfl := Option.some.inj (Option.some.inj hv0')
                obtain rfl := re2.det re'
                obtain ⟨rest, ns, _⟩ := mm hpt
                have := ry.uniq (.lst hH rs)
                subst this
                have nd := ns.2 w2'.nd
                rw [List.cons_append, List.nodup_cons] at nd
                exact fun z => nd.1 (List.mem_append_left _ z)
              have ne : ∀ q ∈ f, upd H2 a0 (.lst (ys.eraseIdx j)) q = H2 q := fun q hq => upd_ne fun z => haF (by rw [← z]; exact hq)
              have rs'' := rs'.mono (F' := F2) (H' := upd H2 a0 (.lst (ys.eraseIdx j))) (.refl _) fun q hq => ne q (n.1 q (List.mem_append_left _ hq))
              obtain ⟨fp', er3, k3⟩ := m [] g' (ys.eraseIdx j) w2' (fun _ h => nomatch h) rs'' ⟨g, n⟩
              have hjs : seqIndex? k ys.length = some j ∧ -(ys.length : Int) ≤ k ∧ k < ys.length := by
                obtain ⟨a, _, b, c⟩ := ixN_seq (show ixN ys.length k = some j by rw [rs.len, ← ixP_eq]; exact hj)
                exact ⟨a, b, c⟩
              have hsz : (xs.length : Int) ≤ 16777216 := by unfold sizeL at hz; omega
              have hlen := rs.len
              refine ⟨a0, ys, k, j, y, rfl, by rw [ro2.int_inv], hH, by omega, by omega, hjs.1, hy, ?_⟩
              exact Post.ret (C := C) (f := g) (fp' := fp') post ((g1.trans g2').trans (Go.write haf)) (w2'.write haf) (k3 g n) er3 (ry.mono (.refl _) fun q hq => ne q (n.1 q (List.mem_append_right _ hq))) fun z => by
                simp [pureE] at z
end
end Z

set_option Elab.async false
set_option linter.all false
set_option maxRecDepth 100000
set_option maxHeartbeats 4000000
/-! Z10: statements. -/
namespace Z
open PySem L2 PyProof.Rows

theorem Res_assoc {α β γ : Type} {r : Res α} {k : α → Env → Res β} {l : β → Env → Res γ} : (r.andThen k).andThen l = r.andThen fun a e => (k a e).andThen l := by cases r <;> rfl
/-- the end f is served by what is wanted -/
def EndAt (C : Cz) (F H : Hp) (fp : List Addr) (D : Ends) (f : Fl) (e' : Env) : Prop := match f with
  | .nx => ∀ F' H' σ' fp', Go F H fp F' H' fp' → Wd F' H' fp' C.fb → EnvR C.K F' H' C.fb C.s0 σ' e' fp' → D.nx σ' H'
  | .bk => ∀ F' H' σ' fp', Go F H fp F' H' fp' → Wd F' H' fp' C.fb → EnvR C.K F' H' C.fb C.s0 σ' e' fp' → D.bk σ' H'
  | .ct => ∀ F' H' σ' fp', Go F H fp F' H' fp' → Wd F' H' fp' C.fb → EnvR C.K F' H' C.fb C.s0 σ' e' fp' → D.ct σ' H'
  | .rt d => ∀ F' H' σ' v f fp', Go F H fp F' H' (f ++ fp') → Wd F' H' (f ++ fp') C.fb → EnvR C.K F' H' C.fb C.s0 σ' e' fp' → Ro C.K F' H' v d f → D.rt v H'
def PostS (C : Cz) (F H : Hp) (fp : List Addr) (r : Res Fl) (D : Ends) : Prop := match r with
  | .ok f e' => EndAt C F H fp D f e'
  | .xc c d e' => ∀ F' H' σ' fp' cls dx, Go F H fp F' H' fp' → Wd F' H' fp' C.fb → EnvR C.K F' H' C.fb C.s0 σ' e' fp' → ExcR C F' H' c d cls dx → C.W cls (some dx) σ' H'
  | .bad => False
def CompS (C : Cz) (t : TS) (ev : Env → Res Fl) : Prop := ∀ σ H e F fp D, EnvR C.K F H C.fb C.s0 σ e fp → Wd F H fp C.fb → PostS C F H fp (ev e) D → t D σ H
def tSW (C : Cz) (ev : Env → Res Fl) : TS := fun D σ H => ∃ e F fp, EnvR C.K F H C.fb C.s0 σ e fp ∧ Wd F H fp C.fb ∧ PostS C F H fp (ev e) D
theorem comp_tSW {C : Cz} {ev : Env → Res Fl} : CompS C (tSW C ev) ev := fun σ H e F fp D a b c => ⟨e, F, fp, a, b, c⟩
theorem CompS.of_tW {C : Cz} {ev : Env → Res Fl} {t : TS} (h : CompS C t ev) {D : Ends} {σ : L2.St} {H : Hp} (x : tSW C ev D σ H) : t D σ H := by
  obtain ⟨e, F, fp, a, b, c⟩ := x
  exact h σ H e F fp D a b c
theorem ps_of {X : Cx} {C : Cz} {ev : Env → Res Fl} {x : Stmt} {t : TS} (h : CompS C t ev) (k : PS X x t) : PS X x (tSW C ev) :=
  ⟨fun pins s σ H D I hw => k.run pins s σ H D I (h.of_tW hw)⟩
theorem pss_of {X : Cx} {C : Cz} {ev : Env → Res Fl} {x : List Stmt} {t : TS} (h : CompS C t ev) (k : PSs X x t) : PSs X x (tSW C ev) :=
  ⟨fun pins s σ H D I hw => k.run pins s σ H D I (h.of_tW hw)⟩
section
variable {C : Cz}
theorem sub_app {f fp : List Addr} : ∀ q ∈ fp, q ∈ f ++ fp := fun _ h => List.mem_append_right _ h
theorem EndAt.shift {F H F1 H1 : Hp} {fp fp1 T : List Addr} {f : Fl} {e' : Env} {D : Ends} (post : EndAt C F H fp D f e') (g : Go F H fp F1 H1 T) (sub : ∀ q ∈ fp1, q ∈ T) : EndAt C F1 H1 fp1 D f e' := by
  cases f with
  | nx => exact fun F' H' σ' fp' g' w' er => post F' H' σ' fp' (g.trans (g'.more sub)) w' er
  | bk => exact fun F' H' σ' fp' g' w' er => post F' H' σ' fp' (g.trans (g'.more sub)) w' er
  | ct => exact fun F' H' σ' fp' g' w' er => post F' H' σ' fp' (g.trans (g'.more sub)) w' er
  | rt d => exact fun F' H' σ' v f fp' g' w' er => post F' H' σ' v f fp' (g.trans (g'.more sub)) w' er
theorem PostS.shift {F H F1 H1 : Hp} {fp fp1 T : List Addr} {r : Res Fl} {D : Ends} (post : PostS C F H fp r D) (g : Go F H fp F1 H1 T) (sub : ∀ q ∈ fp1, q ∈ T) : PostS C F1 H1 fp1 r D := by
  cases r with
  | bad => exact post
  | xc c d e' => exact fun F' H' σ' fp' cls dx g' w' er x => post F' H' σ' fp' cls dx (g.trans (g'.more sub)) w' er x
  | ok f e' => exact EndAt.shift post g sub
/-- one statement, then the rest -/
theorem PostS.step {F H : Hp} {fp : List Addr} {r : Res Fl} {k : Fl → Env → Res Fl} {D D' : Ends} (post : PostS C F H fp (r.andThen k) D)
    (h : ∀ f e', PostS C F H fp (k f e') D → EndAt C F H fp D' f e') : PostS C F H fp r D' := by
  cases r with
  | bad => exact post
  | xc c d e' => exact post
  | ok f e' => exact h f e' post
/-- an evaluation behind a base, with held parts T -/
theorem bindT {α β : Type} {R1 : RR α β} {p1 : Bool} {t1 : L2.St → Hp → (β → Hp → Prop) → Prop} {r1 : Res α} {F H F1 H1 : Hp} {fp fp1 T : List Addr} {e1 : Env} {σ : L2.St} (h1 : ∀ Q, Post C R1 p1 F1 H1 fp1 e1 σ r1 Q → t1 σ H1 Q)
    (g : Go F H fp F1 H1 (T ++ fp1)) (w1 : Wd F1 H1 (T ++ fp1) C.fb) (dT : ∀ q ∈ T, H1 q ≠ none) {k : α → Env → Res Fl} {D : Ends} (post : PostS C F H fp (r1.andThen k) D) {Q1 : β → Hp → Prop}
    (hk : ∀ a e2 v F2 H2 f fp2, Go F H fp F2 H2 (T ++ (f ++ fp2)) → Wd F2 H2 (T ++ (f ++ fp2)) C.fb → (∀ q ∈ T, H2 q = H1 q) → Same F1 F2 → EnvR C.K F2 H2 C.fb C.s0 σ e2 fp2 → R1 F2 H2 f v a → (p1 = true → Same H1 H2 ∧ e2 = e1) → PostS C F H fp (k a e2) D → Q1 v H2) : t1 σ H1 Q1 := by
  refine h1 Q1 ?_
  cases r1 with
  | bad => exact post
  | xc c d e' =>
    intro F' H' fp' cls dx g' w' er x
    obtain ⟨g2, w2, _⟩ := g'.frame w1 dT w'
    exact post F' H' σ fp' cls dx ((g.trans g2).less sub_app) w' er x
  | ok a e' =>
    intro v F' H' f fp' g' w' er ra pu
    obtain ⟨g2, w2, st⟩ := g'.frame w1 dT w'
    exact hk a e' v F' H' f fp' (g.trans g2) w2 st g'.ext er ra pu post
theorem bind0 {α β : Type} {R1 : RR α β} {p1 : Bool} {t1 : L2.St → Hp → (β → Hp → Prop) → Prop} {ev1 : Env → Res α} {F H : Hp} {fp : List Addr} {e : Env} {σ : L2.St} (h1 : Comp C R1 p1 t1 ev1) (er : EnvR C.K F H C.fb C.s0 σ e fp) (wd : Wd F H fp C.fb)
    {k : α → Env → Res Fl} {D : Ends} (post : PostS C F H fp ((ev1 e).andThen k) D) {Q1 : β → Hp → Prop}
    (hk : ∀ a e2 v F2 H2 f fp2, Go F H fp F2 H2 (f ++ fp2) → Wd F2 H2 (f ++ fp2) C.fb → EnvR C.K F2 H2 C.fb C.s0 σ e2 fp2 → R1 F2 H2 f v a → (p1 = true → Same H H2 ∧ e2 = e) → PostS C F H fp (k a e2) D → Q1 v H2) : t1 σ H Q1 :=
  bindT (T := []) (fun Q z => h1 σ H e F fp Q er wd z) (.refl F H fp) wd (fun _ z => by cases z) post fun a e2 v F2 H2 f fp2 g w _ _ er2 r pu post2 => hk a e2 v F2 H2 f fp2 g w er2 r pu post2

/-! ### targets -/
def slT : LT → List Nat
  | .nm i => [i]
  | .nil => []
  | .cons a r => slT a ++ slT r
def CompT (C : Cz) (lt : LT) (g : TG) : Prop := ∀ σ H e F f fp e' v d Q, EnvR C.K F H C.fb C.s0 σ e fp → Wd F H (f ++ fp) C.fb → Ro C.K F H v d f → tgt lt d e = some e' →
  (∀ σ' fp', EnvR C.K F H C.fb C.s0 σ' e' fp' → NS fp' (f ++ fp) → (∀ vs, (∀ i ∈ slT lt, i ∈ vs) → wipe σ' vs = wipe σ vs) → Q σ' H) → g v σ H Q
def CompTs (C : Cz) (lt : LT) (g : TGs) : Prop := ∀ σ H e F f fp e' v d Q, EnvR C.K F H C.fb C.s0 σ e fp → Wd F H (f ++ fp) C.fb → Ros C.K F H v d f → tgts lt d e = some e' →
  (∀ σ' fp', EnvR C.K F H C.fb C.s0 σ' e' fp' → NS fp' (f ++ fp) → (∀ vs, (∀ i ∈ slT lt, i ∈ vs) → wipe σ' vs = wipe σ vs) → Q σ' H) → g v σ H Q
theorem set_set_eq {α : Type} : ∀ {s : List α} {i : Nat} {x y : α}, (s.set i x).set i y = s.set i y
  | [], _, _, _ => rfl
  | a :: s, 0, _, _ => rfl
  | a :: s, i + 1, _, _ => by simp
theorem wipe_set {x : Option V} : ∀ {vs : List Nat} {σ : L2.St} {i : Nat}, i ∈ vs → wipe (σ.set i x) vs = wipe σ vs
  | [], _, _, h => by cases h
  | v :: vs, σ, i, h => by
    unfold wipe
    by_cases hv : i ∈ vs
    · rw [wipe_set hv]
    · have e : i = v := by
        rcases List.mem_cons.mp h with z | z
        · exact z
        · exact absurd z hv
      subst e
      have : ∀ {ws : List Nat} {τ : L2.St}, i ∉ ws → wipe (τ.set i x) ws = (wipe τ ws).set i x := fun {ws} => by
        induction ws with
        | nil => intro τ _; rfl
        | cons w ws ih =>
          intro τ hn
          simp only [List.mem_cons, not_or] at hn
          unfold wipe
          rw [ih hn.2, List.set_comm _ _ hn.1]
      rw [this hv, set_set_eq]
theorem ct_nm {i : Nat} : CompT C (.nm i) (gName i) := by
  intro σ H e F f fp e' v d Q er wd ro h k
  simp only [tgt] at h
  obtain ⟨fp', er', ns⟩ := er.set ro h
  exact k _ fp' er' ns fun vs hv => wipe_set (hv i (by simp [slT]))
theorem cts_nil : CompTs C .nil gNil := by
  intro σ H e F f fp e' v d Q er wd ro h k
  cases ro with
  | nil =>
    simp only [tgts, Option.some.injEq] at h; subst h
    exact ⟨rfl, k σ fp er (NS.dropL _ _) fun vs hv => rfl⟩
  | cons a b => simp [tgts] at h
theorem cts_cons {a r : LT} {g : TG} {u : TGs} (ha : CompT C a g) (hr : CompTs C r u) : CompTs C (.cons a r) (gCons g u) := by
  intro σ H e F f fp e' v d Q er wd ro h k
  cases ro with
  | nil => simp [tgts] at h
  | cons ra rr =>
    rename_i v vs d ds f1 f2
    simp only [tgts, Option.bind_eq_some_iff] at h
    obtain ⟨e1, h1, h2⟩ := h
    refine ⟨v, vs, rfl, ?_⟩
    refine ha σ H e F f1 fp e1 v d _ er (wd.less ?_) ra h1 fun σ1 fp1 er1 ns1 hw1 => ?_
    · rw [List.append_assoc]
      exact (NS.dropL f2 fp).left f1
    · have n1 : NS (f2 ++ fp1) (f1 ++ f2 ++ fp) := by
        rw [List.append_assoc]
        exact (ns1.left f2).trans (NS.mid ..)
      refine hr σ1 H e1 F f2 fp1 e' vs ds _ er1 (wd.less n1) rr h2 fun σ2 fp2 er2 ns2 hw2 => ?_
      refine k σ2 fp2 er2 (ns2.trans n1) fun ws hs => ?_
      rw [hw2 ws fun i hi => hs i (by simp [slT, hi]), hw1 ws fun i hi => hs i (by simp [slT, hi])]
def lenT : LT → Nat
  | .cons _ r => lenT r + 1
  | _ => 0
theorem tgts_len : ∀ {t : LT} {ds : List D} {e e' : Env}, tgts t ds e = some e' → ds.length = lenT t
  | .nm i, [], _, _, h => by simp [tgts] at h
  | .nm i, _ :: _, _, _, h => by simp [tgts] at h
  | .nil, [], _, _, h => rfl
  | .nil, _ :: _, _, _, h => by simp [tgts] at h
  | .cons a r, [], _, _, h => by simp [tgts] at h
  | .cons a r, d :: ds, e, e', h => by
    simp only [tgts, Option.bind_eq_some_iff] at h
    obtain ⟨e1, _, h2⟩ := h
    simp [lenT, tgts_len h2]
/-- (a, b, ..) = a tuple or a list of that length -/
def gSeq (K : PySem.W.Frag) (n : Nat) (t : TGs) : TG := fun v σ H Q => gTup K n t v σ H Q ∨ gUnl K n t v σ H Q
theorem pg_seq {X : Cx} {pos : Pos} {es : List Expr} {k : Nat} {t : TGs} {n : Nat} (hc : X.calm = true) (h : PGs X es t)
    (hn : (assignEach es X.env).length = n) (hst : (assignEach es X.env).findIdx? (·.1) = none) : PG X (.Tuple es k pos) (gSeq X.K n t) :=
  ⟨fun pins s σ H v u Q I r hw => hw.elim (fun hw => (pg_tup hc h hn hst).run pins s σ H v u Q I r hw) fun hw => (pg_unl hc h hn hst).run pins s σ H v u Q I r hw⟩
theorem ct_tup {a r : LT} {u : TGs} (h : CompTs C (.cons a r) u) : CompT C (.cons a r) (gSeq C.K (lenT (.cons a r)) u) := by
  intro σ H e F f fp e' v d Q er wd ro ht k
  cases d <;> first | (simp [tgt] at ht; done) | skip
  · rename_i m ds
    simp only [tgt] at ht
    obtain ⟨b, xs, f2, rfl, sq, rs, ns⟩ := ro.tup_inv wd.ext
    refine .inl ⟨b, xs, rfl, sq, by rw [rs.len]; exact tgts_len ht, ?_⟩
    refine h σ H e F f2 fp e' xs ds _ er (wd.less (ns.right fp)) rs ht fun σ' fp' er' ns' hw => ?_
    exact k σ' fp' er' (ns'.trans (ns.right fp)) fun vs hs => hw vs hs
  · rename_i m ds
    simp only [tgt] at ht
    obtain ⟨b, xs, f2, rfl, sq, rs, ns⟩ := ro.lst_inv wd.ext
    refine .inr ⟨b, xs, rfl, sq, by rw [rs.len]; exact tgts_len ht, ?_⟩
    refine h σ H e F f2 fp e' xs ds _ er (wd.less (ns.right fp)) rs ht fun σ' fp' er' ns' hw => ?_
    exact k σ' fp' er' (ns'.trans (ns.right fp)) fun vs hs => hw vs hs

/-! ### simple statements -/
theorem PostS.nx {F H F1 H1 : Hp} {fp T fp1 : List Addr} {e1 : Env} {σ1 : L2.St} {D : Ends} (post : PostS C F H fp (.ok .nx e1) D) (g : Go F H fp F1 H1 T) (w : Wd F1 H1 T C.fb) (ns : NS fp1 T) (er : EnvR C.K F1 H1 C.fb C.s0 σ1 e1 fp1) : D.nx σ1 H1 :=
  post F1 H1 σ1 fp1 (g.less ns.1) (w.less ns) er
theorem cs_asg {t : LT} {a : LE} {ta : TE} {g : TG} (ha : CE1 C a ta) (hg : CompT C t g) (hB : isB a = false) : CompS C (tAsg ta g) (evS C.phi C.wf (.asg t a)) := by
  intro σ H e F fp D er wd post
  simp only [evS] at post
  refine bind0 ha er wd post fun x e2 v F2 H2 f fp2 g2 w2 er2 r2 _ post2 => ?_
  rw [hB] at r2
  simp only [lift_andThen] at post2
  cases h : tgt t x e2 with
  | none => simp only [h] at post2; exact post2.elim
  | some e3 =>
    simp only [h] at post2
    exact hg σ H2 e2 F2 f fp2 e3 v x _ er2 w2 r2.own h fun σ' fp' er' ns _ => post2.nx g2 w2 ns er'
theorem ros_two {F H : Hp} {vs : List V} {ds : List D} {f : List Addr} (h : Ros C.K F H vs ds f) : vs.length = ds.length := h.len
theorem cs_par {i j : Nat} {es : LL} {ta : TA} (h : Comp C (RL2 C.K) (pureL es) ta (evL C.phi es)) : CompS C (tPar i j ta) (evS C.phi C.wf (.asg (.cons (.nm i) (.cons (.nm j) .nil)) (.tup es))) := by
  intro σ H e F fp D er wd post
  simp only [evS, evE, Res_assoc] at post
  refine bind0 h er wd post fun xs e2 vs F2 H2 f fp2 g2 w2 er2 r2 _ post2 => ?_
  have r2 : Ros C.K F2 H2 vs xs f := r2
  by_cases hz : xs.length ≤ sizeL
  · simp only [hz, if_true, Res.andThen, lift_andThen] at post2
    cases ht : tgt (.cons (.nm i) (.cons (.nm j) .nil)) (.tup true xs) e2 with
    | none => simp only [ht] at post2; exact post2.elim
    | some e3 =>
      simp only [ht] at post2
      simp only [tgt] at ht
      have l := tgts_len ht
      have l2 := r2.len
      simp only [lenT] at l
      match vs, l2 with
      | [v, w], _ =>
        refine ⟨v, w, rfl, ?_⟩
        have q := cts_cons (C := C) (ct_nm (i := i)) (cts_cons (ct_nm (i := j)) cts_nil) σ H2 e2 F2 f fp2 e3 [v, w] xs (fun σ' _ => σ' = (σ.set i (some v)).set j (some w) → D.nx σ' H2) er2 w2 r2 ht fun σ' fp' er' ns _ e => post2.nx g2 w2 ns er'
        obtain ⟨v', r', e1, w', r'', e2', e3', q⟩ := q
        cases e1; cases e2'; cases e3'
        exact q rfl
      | [], h => simp [l] at h
      | [_], h => simp [l] at h
      | _ :: _ :: _ :: _, h => simp [l] at h
  · simp only [hz, if_false, Res.andThen] at post2; exact post2.elim
theorem cs_par3 {i j l : Nat} {es : LL} {ta : TA} (h : Comp C (RL2 C.K) (pureL es) ta (evL C.phi es)) : CompS C (tPar3 i j l ta) (evS C.phi C.wf (.asg (.cons (.nm i) (.cons (.nm j) (.cons (.nm l) .nil))) (.tup es))) := by
  intro σ H e F fp D er wd post
  simp only [evS, evE, Res_assoc] at post
  refine bind0 h er wd post fun xs e2 vs F2 H2 f fp2 g2 w2 er2 r2 _ post2 => ?_
  have r2 : Ros C.K F2 H2 vs xs f := r2
  by_cases hz : xs.length ≤ sizeL
  · simp only [hz, if_true, Res.andThen, lift_andThen] at post2
    cases ht : tgt (.cons (.nm i) (.cons (.nm j) (.cons (.nm l) .nil))) (.tup true xs) e2 with
    | none => simp only [ht] at post2; exact post2.elim
    | some e3 =>
      simp only [ht] at post2
      simp only [tgt] at ht
      have ll := tgts_len ht
      have l2 := r2.len
      simp only [lenT] at ll
      match vs, l2 with
      | [u, v, w], _ =>
        refine ⟨u, v, w, rfl, ?_⟩
        have q := cts_cons (C := C) (ct_nm (i := i)) (cts_cons (ct_nm (i := j)) (cts_cons (ct_nm (i := l)) cts_nil)) σ H2 e2 F2 f fp2 e3 [u, v, w] xs (fun σ' _ => σ' = ((σ.set i (some u)).set j (some v)).set l (some w) → D.nx σ' H2) er2 w2 r2 ht fun σ' fp' er' ns _ e => post2.nx g2 w2 ns er'
        obtain ⟨v', r', e1, w', r'', e2', w'', r3, e3', e4, q⟩ := q
        cases e1; cases e2'; cases e3'; cases e4
        exact q rfl
      | [], h => simp [ll] at h
      | [_], h => simp [ll] at h
      | [_, _], h => simp [ll] at h
      | _ :: _ :: _ :: _ :: _, h => simp [ll] at h
  · simp only [hz, if_false, Res.andThen] at post2; exact post2.elim
theorem cs_ex {a : LE} {ta : TE} (ha : CE1 C a ta) : CompS C (tDrop ta) (evS C.phi C.wf (.ex a)) := by
  intro σ H e F fp D er wd post
  simp only [evS] at post
  exact bind0 ha er wd post fun x e2 v F2 H2 f fp2 g2 w2 er2 r2 _ post2 => post2.nx g2 w2 (.dropL _ _) er2
theorem cs_ret {a : LE} {ta : TE} (ha : CE1 C a ta) (hB : isB a = false) : CompS C (tRet ta) (evS C.phi C.wf (.ret a)) := by
  intro σ H e F fp D er wd post
  simp only [evS] at post
  refine bind0 ha er wd post fun x e2 v F2 H2 f fp2 g2 w2 er2 r2 _ post2 => ?_
  rw [hB] at r2
  exact post2 F2 H2 σ v f fp2 g2 w2 er2 r2.own
theorem cs_retn : CompS C tRetN (evS C.phi C.wf .retn) := by
  intro σ H e F fp D er wd post
  simp only [evS] at post
  exact post F H σ .non [] fp (.refl F H fp) wd er (.frz .non)
theorem cs_brk : CompS C tBreak (evS C.phi C.wf .brk) := by
  intro σ H e F fp D er wd post
  simp only [evS] at post
  exact post F H σ fp (.refl F H fp) wd er
theorem cs_cnt : CompS C tCont (evS C.phi C.wf .cnt) := by
  intro σ H e F fp D er wd post
  simp only [evS] at post
  exact post F H σ fp (.refl F H fp) wd er
theorem cs_ps : CompS C tNext (evS C.phi C.wf .ps) := by
  intro σ H e F fp D er wd post
  simp only [evS] at post
  exact post F H σ fp (.refl F H fp) wd er
theorem cs_bad {t : TS} : CompS C t (evS C.phi C.wf .bad) := by
  intro σ H e F fp D er wd post
  simp only [evS] at post
  exact post.elim
theorem cb_nil : CompS C tNext (evB C.phi C.wf .nil) := by
  intro σ H e F fp D er wd post
  simp only [evB] at post
  exact post F H σ fp (.refl F H fp) wd er
theorem cb_cons {a : LS} {r : LB} {t u : TS} (ha : CompS C t (evS C.phi C.wf a)) (hr : CompS C u (evB C.phi C.wf r)) : CompS C (tSeq t u) (evB C.phi C.wf (.cons a r)) := by
  intro σ H e F fp D er wd post
  simp only [evB] at post
  refine ha σ H e F fp _ er wd (post.step fun f e' p => ?_)
  cases f with
  | nx => exact fun F' H' σ' fp' g w er' => hr σ' H' e' F' fp' D er' w (p.shift g fun _ h => h)
  | bk => exact p
  | ct => exact p
  | rt d => exact p
theorem cs_iff {c : LE} {a b : LB} {tc : TT} {t u : TS} (hc : CT1 C c tc) (ha : CompS C t (evB C.phi C.wf a)) (hb : CompS C u (evB C.phi C.wf b)) : CompS C (tIfS tc t u) (evS C.phi C.wf (.iff c a b)) := by
  intro σ H e F fp D er wd post
  have e0 : evS C.phi C.wf (.iff c a b) e = (evT C.phi c e).andThen fun x e => if x = true then evB C.phi C.wf a e else evB C.phi C.wf b e := by
    simp only [evS, evT, Res_assoc]
    congr 1; funext x e'
    cases x <;> simp [Res.andThen]
    rename_i b; cases b <;> rfl
  rw [e0] at post
  refine bind0 hc er wd post fun x e2 v F2 H2 f fp2 g2 w2 er2 r2 _ post2 => ?_
  obtain ⟨hf, rfl⟩ := (show f = [] ∧ v = x from r2)
  subst hf
  cases v with
  | true => exact ha σ H2 e2 F2 fp2 D er2 w2 (PostS.shift post2 g2 fun _ h => h)
  | false => exact hb σ H2 e2 F2 fp2 D er2 w2 (PostS.shift post2 g2 fun _ h => h)
theorem cs_whl {c : LE} {b : LB} {tc : TT} {t : TS} (hc : CT1 C c tc) (hb : CompS C t (evB C.phi C.wf b)) : CompS C (tWhile tc t) (evS C.phi C.wf (.whl c b)) := by
  intro σ H e F fp D er wd post
  simp only [evS] at post
  refine ⟨fun m σ H => ∃ e F fp, EnvR C.K F H C.fb C.s0 σ e fp ∧ Wd F H fp C.fb ∧ PostS C F H fp (whileR (evE C.phi c) (evB C.phi C.wf b) m e) D, ⟨C.wf, e, F, fp, er, wd, post⟩, ?_⟩
  rintro m σ H ⟨e, F, fp, er, wd, post⟩
  cases m with
  | zero => exact post.elim
  | succ m =>
    have e0 : whileR (evE C.phi c) (evB C.phi C.wf b) (m + 1) e = (evT C.phi c e).andThen fun x e => if x = true then (evB C.phi C.wf b e).andThen fun f e2 => match f with
        | .nx => whileR (evE C.phi c) (evB C.phi C.wf b) m e2
        | .ct => whileR (evE C.phi c) (evB C.phi C.wf b) m e2
        | .bk => .ok .nx e2
        | .rt d => .ok (.rt d) e2 else .ok .nx e := by
      simp only [whileR, evT, Res_assoc]
      congr 1; funext x e'
      cases x <;> simp [Res.andThen]
      rename_i b; cases b <;> rfl
    rw [e0] at post
    refine bind0 hc er wd post fun x e2 v F2 H2 f fp2 g2 w2 er2 r2 _ post2 => ?_
    obtain ⟨hf, rfl⟩ := (show f = [] ∧ v = x from r2)
    subst hf
    have post3 := PostS.shift post2 g2 (fp1 := fp2) fun _ h => h
    cases v with
    | false =>
      simp only [Bool.false_eq_true, if_false] at post3 ⊢
      exact post3.nx (.refl ..) w2 (.refl _) er2
    | true =>
      simp only [if_true] at post3 ⊢
      refine ⟨fun σ H => ∃ e F fp, EnvR C.K F H C.fb C.s0 σ e fp ∧ Wd F H fp C.fb ∧ PostS C F H fp (whileR (evE C.phi c) (evB C.phi C.wf b) m e) D, fun σ' H' z => ⟨m, Nat.lt_succ_self m, z⟩, ?_⟩
      refine hb σ H2 e2 F2 fp2 _ er2 w2 (post3.step fun f e' p => ?_)
      cases f with
      | nx => exact fun F' H' σ' fp' g w er' => ⟨e', F', fp', er', w, p.shift g fun _ h => h⟩
      | ct => exact fun F' H' σ' fp' g w er' => ⟨e', F', fp', er', w, p.shift g fun _ h => h⟩
      | bk => exact fun F' H' σ' fp' g w er' => p.nx g w (.refl _) er'
      | rt d => exact p
end
end Z

set_option Elab.async false
set_option linter.all false
set_option maxRecDepth 100000
set_option maxHeartbeats 4000000
/-! Z11: stores into lists; loops. -/
namespace Z
open PySem L2 PyProof.Rows

section
variable {X : Cx}
def rIop (K : PySem.W.Frag) (o : Bop) : TIp := fun x y H Q => ∃ F d1 d2 d3 f1 f2, Ro K F H x d1 f1 ∧ Ro K F H y d2 f2 ∧ iop o d1 d2 = some d3 ∧ ∀ v, (∀ F, Rf K F v d3) → Q v H
theorem iop_mulW : OpR X (inplaceOp .Mult) (rI CMulW fun i j => .int (i * j)) := opI fun _ _ _ _ _ _ _ hc q => imul_int q hc.ok
theorem iop_scal {o : Bop} {a b d : D} (h : iop o a b = some d) : scalD d = true := by
  cases o <;> cases a <;> cases b <;> simp only [iop, reduceCtorEq, Option.some.injEq] at h <;> first | (subst h; rfl) | skip
  all_goals
    split at h
    · simp only [Option.some.injEq] at h; subst h; rfl
    · cases h
theorem ip_iop (o : Bop) : PIp X (opB o) (rIop X.K o) := by
  intro pins s σ H x y v u Q I rx ry h
  obtain ⟨F, d1, d2, d3, f1, f2, r1, r2, hb, q⟩ := h
  cases o <;> cases d1 <;> cases d2 <;> simp only [iop, Option.some.injEq, reduceCtorEq] at hb
  case add.int.int i j =>
    subst hb
    exact in_add pins s σ H x y v u Q I rx ry ⟨i, j, r1.int_inv, r2.int_inv, q _ fun F => .int _⟩
  case sub.int.int i j =>
    subst hb
    exact in_sub pins s σ H x y v u Q I rx ry ⟨i, j, r1.int_inv, r2.int_inv, q _ fun F => .int _⟩
  case mul.int.int i j =>
    split at hb
    · rename_i hl
      simp only [Option.some.injEq] at hb; subst hb
      exact iop_mulW pins s σ H x y v u Q I rx ry ⟨i, j, r1.int_inv, r2.int_inv, hl, q _ fun F => .int _⟩
    · cases hb
  case add.str.str a b =>
    split at hb
    · rename_i hl
      simp only [Option.some.injEq] at hb; subst hb
      refine iop_add_str pins s σ H x y v u Q I rx ry ⟨⟨a.toArray⟩, ⟨b.toArray⟩, r1.str_inv, r2.str_inv, by rw [str_len, str_len, ← sizeL_eq]; exact hl, ?_⟩
      rw [str_app]
      exact q _ fun F => .str _
    · cases hb
theorem get_list : PGet X (rIxL X.K) := by
  intro pins s σ H x y v u Q I rx ry h
  obtain ⟨p, xs, i, z, rfl, rfl, hq, he, q⟩ := h
  cases rx
  obtain ⟨t, rfl⟩ := ry
  obtain ⟨its, r, pl, hz⟩ := I.list hq
  obtain ⟨j, h1, h2, h3, h4, h5⟩ := atI_get he
  obtain ⟨w, ew, rw'⟩ := r.get h2
  have hl := r.length
  have hn := line63
  have fin : EP X pins σ Q w s := ⟨z, H, I, rw', q⟩
  by_cases h0 : 0 ≤ i
  · have hj : i.toNat = j := by
      rw [seqIndex_of h0 h5] at h1
      exact Option.some.inj h1
    exact wpAny_getItem_list pl.isList h0 (by omega) (by rw [hj]; simpa using ew) fin
  · have hj : (i + (its.toArray.size : Int)).toNat = j := by
      rw [seqIndex_neg (by omega) h4] at h1
      rw [List.size_toArray, ← hl]
      exact Option.some.inj h1
    exact wpAny_getItem_list_neg pl.isList (by omega) (by rw [List.size_toArray] <;> omega) (by omega) (by rw [hj]; simpa using ew) fin
end

section
variable {C : Cz}
theorem cs_aug {i : Nat} {o : Bop} {a : LE} {ta : TE} (ha : CE1 C a ta) : CompS C (tAug i ta (rIop C.K o)) (evS C.phi C.wf (.aug i o a)) := by
  intro σ H e F fp D er wd post
  simp only [evS, lift_andThen] at post
  cases h : getS e i with
  | none => simp only [h] at post; exact post.elim
  | some d =>
    simp only [h] at post
    obtain ⟨v, f, hv, ro, _⟩ := er.get h
    by_cases hs : scalD d = true
    · simp only [hs, if_true] at post
      refine ⟨v, hv, ?_⟩
      refine bind0 ha er wd post fun y e2 w F2 H2 g fp2 g2 w2 er2 r2 _ post2 => ?_
      obtain ⟨g', r2⟩ := r2.ro
      cases hi : iop o d y with
      | none => simp only [hi] at post2; exact post2.elim
      | some z =>
        simp only [hi] at post2
        obtain ⟨rf, rfl⟩ := ro.scal hs
        refine ⟨F2, d, y, z, [], g', .frz (rf.mono g2.ext), r2, hi, fun u ru => ?_⟩
        cases h3 : setS e2 i z with
        | none => simp only [h3] at post2; exact post2.elim
        | some e3 =>
          simp only [h3] at post2
          obtain ⟨fp3, er3, ns⟩ := er2.set (.frz (ru F2)) h3
          exact post2.nx g2 w2 ((show NS fp3 fp2 from ns).trans (.dropL _ _)) er3
    · simp only [hs, if_false, Bool.false_eq_true] at post; exact post.elim
/-- a place, then a key: both leave the heap as it is -/
theorem place_key {p : LP} {k : LE} {tp tk : TE} (hp : CompP C p tp) (hk : CE1 C k tk) (hpu : pureE k = true) {σ : L2.St} {H H1 F F1 : Hp} {fp fp1 T : List Addr} {e1 : Env} (er : EnvR C.K F1 H1 C.fb C.s0 σ e1 fp1)
    (g : Go F H fp F1 H1 (T ++ fp1)) (w1 : Wd F1 H1 (T ++ fp1) C.fb) (dT : ∀ q ∈ T, H1 q ≠ none) {kk : Nat × List Stp → D → Env → Res Fl} {D : Ends}
    (post : PostS C F H fp ((evP C.phi p e1).andThen fun q e => (evE C.phi k e).andThen fun k e => kk q k e) D) {S : V → V → Hp → Prop}
    (hS : ∀ q kd e2 v w F2 H2 fp2 g2, Go F H fp F2 H2 (T ++ fp2) → Wd F2 H2 (T ++ fp2) C.fb → (∀ q ∈ T, H2 q = H1 q) → Same F1 F2 → EnvR C.K F2 H2 C.fb C.s0 σ e2 fp2 → (∃ v0, σ[q.1]? = some (some v0) ∧ Reach H2 v0 q.2 v) → Ro C.K F2 H2 w kd g2 → PostS C F H fp (kk q kd e2) D → S v w H2) :
    tp σ H1 fun v H2 => tk σ H2 fun w H3 => S v w H3 := by
  refine bindT (fun Q z => hp σ H1 e1 F1 fp1 Q er (w1.less (.dropL _ _)) z) g w1 dT post fun q e2 v F2 H2 f fp2 g2 w2 st2 x2 er2 r2 pu2 post2 => ?_
  obtain ⟨hf, v0, hv0, re⟩ := r2
  subst hf
  refine bindT (T := T) (fun Q z => hk σ H2 e2 F2 fp2 Q er2 (w2.less (.dropL _ _)) z) g2 w2 (fun q hq => by rw [st2 q hq]; exact dT q hq) post2 fun kd e3 w F3 H3 f3 fp3 g3 w3 st3 x3 er3 r3 pu3 post3 => ?_
  obtain ⟨g4, r3⟩ := r3.ro
  have hns : NS (T ++ fp3) (T ++ (f3 ++ fp3)) := (NS.dropL f3 fp3).left T
  exact hS q kd e3 v w F3 H3 fp3 g4 (g3.less hns.1) (w3.less hns) (fun q hq => (st3 q hq).trans (st2 q hq)) (x2.trans x3) er3 ⟨v0, hv0, re.mono (pu3 hpu).1⟩ r3 post3
theorem cs_st {p : LP} {k a : LE} {tp tk ta : TE} (ha : CE1 C a ta) (hp : CompP C p tp) (hk : CE1 C k tk) (hpu : pureE k = true) (hB : isB a = false) :
    CompS C (tAsg ta (gSub tp tk rSetL)) (evS C.phi C.wf (.st p k a)) := by
  intro σ H e F fp D er wd post
  simp only [evS] at post
  refine bind0 ha er wd post fun x e1 v F1 H1 f fp1 g1 w1 er1 r1 _ post1 => ?_
  rw [hB] at r1
  have ro : Ro C.K F1 H1 v x f := r1
  refine place_key hp hk hpu er1 g1 w1 ro.dom post1 fun q kd e2 b w F2 H2 fp2 gg g2 w2 st2 x2 er2 ⟨v0, hv0, re⟩ rk post2 => ?_
  have ro2 : Ro C.K F2 H2 v x f := ro.mono x2 st2
  simp only [lift_andThen] at post2
  cases hg : getP e2 q.1 q.2 with
  | none => simp only [hg] at post2; exact post2.elim
  | some d =>
    simp only [hg] at post2
    cases d <;> first | exact False.elim post2 | skip
    rename_i m ds
    cases m <;> first | exact False.elim post2 | skip
    cases kd <;> first | exact False.elim post2 | skip
    rename_i kk
    simp only [] at post2
    cases hj : ixP ds.length kk with
    | none => simp only [hj] at post2; exact post2.elim
    | some j =>
      simp only [hj] at post2
      obtain ⟨a0, ys, fl, rfl, hH, rs, _, m⟩ := lst_at er2 (w2.less (.dropL _ _)) hv0 re hg
      cases hpt : putP e2 q.1 q.2 (.lst true (ds.set j x)) with
      | none => simp only [hpt] at post2; exact post2.elim
      | some e3 =>
        simp only [hpt] at post2
        obtain ⟨haf, m⟩ := m hpt
        refine ⟨a0, ys, kk, j, rfl, rk.int_inv, hH, by rw [rs.len, ← ixP_eq]; exact hj, ?_⟩
        have hjl : j < ds.length := by
          rw [ixP_eq] at hj
          exact (ixN_seq hj).2.1
        obtain ⟨c, hc⟩ : ∃ c, ds[j]? = some c := ⟨ds[j], by simp [hjl]⟩
        obtain ⟨y0, fc, rest, _, _, n1, n1', mk⟩ := rs.set hc
        have n2 := nodup_app w2.nd
        have haT : a0 ∉ f := fun z => n2.2.2 a0 z haf
        have haF : a0 ∉ fl := by
          obtain ⟨v0', y, fy, hv0', re', ry, mm⟩ := er2.focus hg
          rw [hv0] at hv0'
          obtain rfl := Option.some.inj (Option.some.inj hv0')
          obtain rfl := re.det re'
          obtain ⟨rest, ns, _⟩ := mm hpt
          have := ry.uniq (.lst hH rs)
          subst this
          have nd := ns.2 (w2.less (.dropL _ _)).nd
          rw [List.cons_append, List.nodup_cons] at nd
          exact fun z => nd.1 (List.mem_append_left _ z)
        obtain ⟨fT, rs', k1, k2⟩ := mk (F' := F2) (H' := upd H2 a0 (.lst (ys.set j v))) (.refl _) (fun p hp => upd_ne fun z => haF (by rw [← z]; exact n1.1 p (List.mem_append_right _ hp))) (ro2.mono (.refl _) fun p hp => upd_ne fun z => haT (by rw [← z]; exact hp))
        have hex : NS (fT ++ fc) (f ++ fl) := by
          refine (k1.right fc).trans ?_
          rw [List.append_assoc]
          exact ((NS.swap rest fc).trans n1).left f
        obtain ⟨fp3, er3, k⟩ := m f fT (ys.set j v) w2 (fun p hp => by rw [st2 p hp]; exact ro.dom p hp) rs' ⟨fc, hex⟩
        have k := k fc hex
        have hin : a0 ∈ f ++ fp2 := List.mem_append_right _ haf
        exact post2.nx (g2.trans (Go.write hin)) (w2.write hin) ((NS.dropL fc fp3).trans k) er3
/-! a dict's entry -/
theorem key_ne {a b : List Nat} (h : ¬ a = b) : ¬ (Sum.inr ⟨a.toArray⟩ : Key) = Sum.inr ⟨b.toArray⟩ := fun z => h (by
  injection z with z
  injection z with z
  have := congrArg Array.toList z
  simpa using this)
theorem kv_none {s : List Nat} {v : V} : ∀ {ks : List (List Nat)} {xs : List V}, s ∉ ks → (kvL ks xs).map (fun kv => if kv.1 = (Sum.inr ⟨s.toArray⟩ : Key) then (kv.1, v) else kv) = kvL ks xs
  | [], xs, _ => rfl
  | k :: ks, [], _ => by cases ks <;> rfl
  | k :: ks, x :: xs, h => by
    have e : kvL (k :: ks) (x :: xs) = (.inr ⟨k.toArray⟩, x) :: kvL ks xs := rfl
    rw [e, List.map_cons, kv_none fun z => h (List.mem_cons_of_mem _ z)]
    rw [if_neg (key_ne fun z => h (by rw [z]; exact List.mem_cons_self ..))]
theorem keyI_mem {s : List Nat} : ∀ {ks : List (List Nat)} {j : Nat}, keyI ks s = some j → s ∈ ks ∧ j < ks.length
  | [], _, h => by cases h
  | k :: ks, j, h => by
    unfold keyI at h
    split at h
    · rename_i hk
      cases h
      exact ⟨by rw [hk]; exact List.mem_cons_self .., by simp⟩
    · rw [Option.map_eq_some_iff] at h
      obtain ⟨i, hi, rfl⟩ := h
      obtain ⟨a, b⟩ := keyI_mem hi
      exact ⟨List.mem_cons_of_mem _ a, by simp; omega⟩
theorem kv_set {s : List Nat} {v : V} : ∀ {ks : List (List Nat)} {xs : List V} {j : Nat}, ks.Nodup → xs.length = ks.length → keyI ks s = some j →
    ((kvL ks xs).any fun kv => decide (kv.1 = (Sum.inr ⟨s.toArray⟩ : Key))) = true ∧ (kvL ks xs).map (fun kv => if kv.1 = (Sum.inr ⟨s.toArray⟩ : Key) then (kv.1, v) else kv) = kvL ks (xs.set j v)
  | [], _, _, _, _, h => by cases h
  | k :: ks, [], _, _, hl, _ => by simp at hl
  | k :: ks, x :: xs, j, hn, hl, h => by
    have e : kvL (k :: ks) (x :: xs) = (.inr ⟨k.toArray⟩, x) :: kvL ks xs := rfl
    rw [List.nodup_cons] at hn
    unfold keyI at h
    split at h
    · rename_i hk
      subst hk
      cases h
      rw [e, List.any_cons, List.map_cons, kv_none hn.1]
      simp only [decide_true, Bool.true_or, if_true, true_and]
      rfl
    · rename_i hk
      rw [Option.map_eq_some_iff] at h
      obtain ⟨i, hi, rfl⟩ := h
      obtain ⟨a, b⟩ := kv_set (v := v) hn.2 (by simpa using hl) hi
      rw [e, List.any_cons, List.map_cons, a, b, if_neg (key_ne hk)]
      exact ⟨by simp, rfl⟩
theorem put_kvL {s : List Nat} {v : V} {ks : List (List Nat)} {xs : List V} {j : Nat} (hn : ks.Nodup) (hl : xs.length = ks.length) (h : keyI ks s = some j) : putK (kvL ks xs) (.inr ⟨s.toArray⟩) v = kvL ks (xs.set j v) := by
  obtain ⟨a, b⟩ := kv_set (v := v) hn hl h
  unfold putK
  rw [if_pos a, b]
theorem kvL_le : ∀ (ks : List (List Nat)) (xs : List V), (kvL ks xs).length ≤ ks.length := fun ks xs => by
  unfold kvL; rw [List.length_zipWith]; omega
theorem cs_stk {p : LP} {k a : LE} {tp tk ta : TE} (ha : CE1 C a ta) (hp : CompP C p tp) (hk : CE1 C k tk) (hpu : pureE k = true) (hB : isB a = false) :
    CompS C (tAsg ta (gSub tp tk rSetD)) (evS C.phi C.wf (.stk p k a)) := by
  intro σ H e F fp D er wd post
  simp only [evS] at post
  refine bind0 ha er wd post fun x e1 v F1 H1 f fp1 g1 w1 er1 r1 _ post1 => ?_
  rw [hB] at r1
  have ro : Ro C.K F1 H1 v x f := r1
  refine place_key hp hk hpu er1 g1 w1 ro.dom post1 fun q kd e2 b w F2 H2 fp2 gg g2 w2 st2 x2 er2 ⟨v0, hv0, re⟩ rk post2 => ?_
  have ro2 : Ro C.K F2 H2 v x f := ro.mono x2 st2
  simp only [lift_andThen] at post2
  cases hg : getP e2 q.1 q.2 with
  | none => simp only [hg] at post2; exact post2.elim
  | some d =>
    simp only [hg] at post2
    cases hz : dicSet d kd x with
    | none => simp only [hz] at post2; exact post2.elim
    | some zz =>
      simp only [hz] at post2
      obtain ⟨ks, ds, s, j, rfl, rfl, h100, hj, rfl⟩ := dicSet_inv hz
      obtain ⟨a0, ys, fl, rfl, hH, hl, hn, rs, _, m⟩ := dic_at er2 (w2.less (.dropL _ _)) hv0 re hg
      cases hpt : putP e2 q.1 q.2 (.dic ks (ds.set j x)) with
      | none => simp only [hpt] at post2; exact post2.elim
      | some e3 =>
        simp only [hpt] at post2
        obtain ⟨haf, m⟩ := m hpt
        have hy : ys.length = ks.length := by rw [rs.len, hl]
        have ek : w = kV (.inr ⟨s.toArray⟩) := rk.str_inv
        have dp : DPut H2 a0 w v (upd H2 a0 (.dK (kvL ks (ys.set j v)))) := by
          rw [ek, ← put_kvL hn hy hj]
          exact DPut.k hH (Nat.lt_of_le_of_lt (kvL_le ks ys) (by rw [sizeLine_eq]; omega))
        refine (show ∃ a H', V.ref a0 = .ref a ∧ DPut H2 a w v H' ∧ D.nx σ H' from ⟨a0, _, rfl, dp, ?_⟩)
        have hjl : j < ds.length := by rw [← hl]; exact (keyI_mem hj).2
        obtain ⟨c, hc⟩ : ∃ c, ds[j]? = some c := ⟨ds[j], by simp [hjl]⟩
        obtain ⟨y0, fc, rest, _, _, n1, n1', mk⟩ := rs.set hc
        have n2 := nodup_app w2.nd
        have haT : a0 ∉ f := fun z => n2.2.2 a0 z haf
        have haF : a0 ∉ fl := by
          obtain ⟨v0', y, fy, hv0', re', ry, mm⟩ := er2.focus hg
          rw [hv0] at hv0'
          obtain rfl := Option.some.inj (Option.some.inj hv0')
          obtain rfl := re.det re'
          obtain ⟨rest, ns, _⟩ := mm hpt
          have := ry.uniq (.dic hH hl hn rs)
          subst this
          have nd := ns.2 (w2.less (.dropL _ _)).nd
          rw [List.cons_append, List.nodup_cons] at nd
          exact fun z => nd.1 (List.mem_append_left _ z)
        obtain ⟨fT, rs', k1, k2⟩ := mk (F' := F2) (H' := upd H2 a0 (.dK (kvL ks (ys.set j v)))) (.refl _) (fun p hp => upd_ne fun z => haF (by rw [← z]; exact n1.1 p (List.mem_append_right _ hp))) (ro2.mono (.refl _) fun p hp => upd_ne fun z => haT (by rw [← z]; exact hp))
        have hex : NS (fT ++ fc) (f ++ fl) := by
          refine (k1.right fc).trans ?_
          rw [List.append_assoc]
          exact ((NS.swap rest fc).trans n1).left f
        obtain ⟨fp3, er3, k⟩ := m f fT (ys.set j v) (by simp) w2 (fun p hp => by rw [st2 p hp]; exact ro.dom p hp) rs' ⟨fc, hex⟩
        have k := k fc hex
        have hin : a0 ∈ f ++ fp2 := List.mem_append_right _ haf
        exact post2.nx (g2.trans (Go.write hin)) (w2.write hin) ((NS.dropL fc fp3).trans k) er3
theorem tdI_nodup {ks : List D} {k : D} (hk : ks.all keyT = true) (h : keyT k = true) (n : (ks.map keyN).Nodup) (hj : tdI ks k = none) : ((ks ++ [k]).map keyN).Nodup := by
  rw [List.map_append, List.nodup_append]
  refine ⟨n, by simp, fun a ha b hb => ?_⟩
  rw [List.map_singleton, List.mem_singleton] at hb
  subst hb
  intro z; subst z
  clear n
  induction ks with
  | nil => cases ha
  | cons x ks ih =>
    simp only [List.all_cons, Bool.and_eq_true] at hk
    unfold tdI at hj
    rw [eqB_key hk.1 h] at hj
    by_cases e : keyN x = keyN k
    · simp [e] at hj
    · simp only [e, decide_false, Bool.false_eq_true, if_false, Option.map_eq_none_iff] at hj
      rw [List.map_cons, List.mem_cons] at ha
      rcases ha with ha | ha
      · exact e ha.symm
      · exact ih hk.2 hj ha
theorem rfs_app {K : PySem.W.Frag} {F : Hp} : ∀ {v w : List V} {d c : List D}, Rfs K F v d → Rfs K F w c → Rfs K F (v ++ w) (d ++ c)
  | _, _, _, _, .nil, b => b
  | _, _, _, _, .cons h r, b => .cons h (rfs_app r b)
theorem rfs_set {K : PySem.W.Frag} {F : Hp} {x : V} {y : D} (h : Rf K F x y) : ∀ {v : List V} {d : List D} (j : Nat), Rfs K F v d → Rfs K F (v.set j x) (d.set j y)
  | _, _, _, .nil => .nil
  | _, _, 0, .cons _ r => .cons h r
  | _, _, j + 1, .cons g r => .cons g (rfs_set h j r)
theorem cs_stt {p : LP} {k a : LE} {tp tk ta : TE} (ha : CE1 C a ta) (hp : CompP C p tp) (hk : CE1 C k tk) (hpu : pureE k = true) (hB : isB a = false) :
    CompS C (tAsg ta (gSub tp tk (rSetT C.K))) (evS C.phi C.wf (.stt p k a)) := by
  intro σ H e F fp D er wd post
  simp only [evS] at post
  refine bind0 ha er wd post fun x e1 v F1 H1 f fp1 g1 w1 er1 r1 _ post1 => ?_
  rw [hB] at r1
  have ro : Ro C.K F1 H1 v x f := r1
  refine place_key hp hk hpu er1 g1 w1 ro.dom post1 fun q kd e2 b w F2 H2 fp2 gg g2 w2 st2 x2 er2 ⟨v0, hv0, re⟩ rk post2 => ?_
  have ro2 : Ro C.K F2 H2 v x f := ro.mono x2 st2
  simp only [lift_andThen] at post2
  cases hg : getP e2 q.1 q.2 with
  | none => simp only [hg] at post2; exact post2.elim
  | some d =>
    simp only [hg] at post2
    cases hz : tdSet d kd x with
    | none => simp only [hz] at post2; exact post2.elim
    | some zz =>
      simp only [hz] at post2
      obtain ⟨ks, ds, rfl, kt, kf, xs, hl, ez⟩ := tdSet_inv hz
      obtain ⟨rx, rfl⟩ := ro2.scal xs
      obtain ⟨rkf, rfl⟩ := rk.frozen kf
      obtain ⟨a0, as, vs, rfl, rd, hH, m⟩ := td_at er2 (w2.less (.dropL _ _)) hv0 re hg
      cases hpt : putP e2 q.1 q.2 zz with
      | none => simp only [hpt] at post2; exact post2.elim
      | some e3 =>
        simp only [hpt] at post2
        obtain ⟨haf, m⟩ := m hpt
        refine ⟨F2, kd, ks, ds, [], [a0], w2.ext, rk, kt, rd, hl, fun a b as vs ea eb hH ra rv => ?_⟩
        cases ea
        subst eb
        cases rd with
        | td _ _ h1 h2 h3 h4 _ h5 =>
          have new : Ro C.K F2 (upd H2 a0 (match tdI ks kd with | some j => tdO a0 ks as (vs.set j v) | none => tdO a0 (ks ++ [kd]) (as ++ [b]) (vs ++ [v]))) (.ref a0) zz [a0] := by
            rw [ez]
            cases hj : tdI ks kd with
            | some j => exact .td upd_same ra h1 h2 (by rw [h3]; simp) h4 (rfs_set rx j rv) (by
                rw [List.all_eq_true] at h5 ⊢
                intro z hz
                rcases List.mem_or_eq_of_mem_set hz with q | q
                · exact h5 z q
                · rw [q]; exact xs)
            | none => exact .td upd_same (by rw [List.map_append]; exact rfs_app ra (.cons rkf .nil)) (by rw [List.all_append, h1]; simp [kt]) (tdI_nodup h1 kt h2 hj) (by simp [h3]) (by simp; omega) (rfs_app rv (.cons rx .nil)) (by rw [List.all_append, h5]; simp [xs])
          obtain ⟨fp3, er3, k⟩ := m _ new
          have hin : a0 ∈ [] ++ fp2 := by simpa using haf
          exact post2.nx (g2.trans (Go.write hin)) (w2.write hin) (by simpa using k) er3
theorem cs_stl {p : LP} {lo hi a : LE} {tp tl th ta : TE} (ha : CE1 C a ta) (hp : CompP C p tp) (hl : CE1 C lo tl) (hh : CE1 C hi th) (hpl : pureE lo = true) (hph : pureE hi = true) (hi0 : ∀ e c d e', evE C.phi hi e ≠ .xc c d e') (hB : isB a = false) :
    CompS C (tAsg ta (gSl tp tl th)) (evS C.phi C.wf (.stl p lo hi a)) := by
  intro σ H e F fp D er wd post
  simp only [evS] at post
  refine bind0 ha er wd post fun x e1 v F1 H1 f fp1 g1 w1 er1 r1 _ post1 => ?_
  rw [hB] at r1
  have ro : Ro C.K F1 H1 v x f := r1
  refine bindT (T := f) (fun Q z => hp σ H1 e1 F1 fp1 Q er1 (w1.less (.dropL _ _)) z) g1 w1 ro.dom post1 fun q e2 b F2 H2 f2 fp2 g2 w2 st2 x2 er2 r2 pu2 post2 => ?_
  obtain ⟨hf, v0, hv0, re2⟩ := r2
  subst hf
  have dT2 : ∀ q ∈ f, H2 q ≠ none := fun q hq => by rw [st2 q hq]; exact ro.dom q hq
  refine bindT (T := f) (fun Q z => hl σ H2 e2 F2 fp2 Q er2 (w2.less (.dropL _ _)) z) g2 w2 dT2 post2 fun l e3 lv F3 H3 f3 fp3 g3 w3 st3 x3 er3 r3 pu3 post3 => ?_
  obtain ⟨gl, rl⟩ := r3.ro
  have hns : NS (f ++ fp3) (f ++ (f3 ++ fp3)) := (NS.dropL f3 fp3).left f
  have g3' := g3.less hns.1
  have w3' := w3.less hns
  have dT3 : ∀ q ∈ f, H3 q ≠ none := fun q hq => by rw [st3 q hq]; exact dT2 q hq
  obtain ⟨i, rfl⟩ : ∃ i, l = .int i := by
    cases hv : evE C.phi hi e3 with
    | bad => rw [hv] at post3; exact post3.elim
    | xc c d e' => exact absurd hv (hi0 e3 c d e')
    | ok h e4 =>
      rw [hv] at post3
      have post3 : PostS C F H fp ((lift (getP e4 q.1 q.2) e4).andThen fun d e => (lift (stlD d l h x) e).andThen fun zs e => (lift (putP e q.1 q.2 (.lst true zs)) e).andThen fun e _ => .ok .nx e) D := post3
      cases hg : getP e4 q.1 q.2 with
      | none => rw [hg] at post3; exact post3.elim
      | some d =>
        rw [hg] at post3
        have post3 : PostS C F H fp ((lift (stlD d l h x) e4).andThen fun zs e => (lift (putP e q.1 q.2 (.lst true zs)) e).andThen fun e _ => .ok .nx e) D := post3
        cases hz : stlD d l h x with
        | none => rw [hz] at post3; exact post3.elim
        | some zs =>
          obtain ⟨_, i, _, _, _, rfl, _⟩ := stlD_inv hz
          exact ⟨i, rfl⟩
  refine ⟨i, rl.int_inv, ?_⟩
  refine bindT (T := f) (fun Q z => hh σ H3 e3 F3 fp3 Q er3 (w3'.less (.dropL _ _)) z) g3' w3' dT3 post3 fun h e4 hv F4 H4 f4 fp4 g4 w4 st4 x4 er4 r4 pu4 post4 => ?_
  obtain ⟨gh, rh⟩ := r4.ro
  have hns4 : NS (f ++ fp4) (f ++ (f4 ++ fp4)) := (NS.dropL f4 fp4).left f
  have g4' := g4.less hns4.1
  have w4' := w4.less hns4
  have ro4 : Ro C.K F4 H4 v x f := ro.mono (x2.trans (x3.trans x4)) fun q hq => (st4 q hq).trans ((st3 q hq).trans (st2 q hq))
  have re4 : Reach H4 v0 q.2 b := re2.mono ((pu3 hpl).1.trans (pu4 hph).1)
  simp only [lift_andThen] at post4
  cases hg : getP e4 q.1 q.2 with
  | none => simp only [hg] at post4; exact post4.elim
  | some d =>
    simp only [hg] at post4
    cases hz : stlD d (.int i) h x with
    | none => simp only [hz] at post4; exact post4.elim
    | some zz =>
    simp only [hz] at post4
    obtain ⟨ds, i', j, zs, rfl, e1', rfl, rfl, hc, rfl⟩ := stlD_inv hz
    cases e1'
    have post5 := post4
    obtain ⟨a0, ys, fl, rfl, hH, rs, _, m⟩ := lst_at er4 (w4'.less (.dropL _ _)) hv0 re4 hg
    cases hpt : putP e4 q.1 q.2 (.lst true (ds.take i.toNat ++ zs ++ ds.drop j.toNat)) with
    | none => simp only [hpt] at post5; exact post5.elim
    | some e5 =>
      simp only [hpt] at post5
      obtain ⟨haf, m⟩ := m hpt
      have n2 := nodup_app w4'.nd
      have haT : a0 ∉ f := fun z => n2.2.2 a0 z haf
      cases ro4 with
      | frz r => have := r.fzn; simp [fzn] at this
      | lst hB2 rb =>
        rename_i b0 ws fb
        have hne : a0 ≠ b0 := fun z => haT (by rw [z]; exact List.mem_cons_self ..)
        have haF : a0 ∉ fl := by
          obtain ⟨v0', y, fy, hv0', re', ry, mm⟩ := er4.focus hg
          rw [hv0] at hv0'
          obtain rfl := Option.some.inj (Option.some.inj hv0')
          obtain rfl := re4.det re'
          obtain ⟨rest, ns, _⟩ := mm hpt
          have := ry.uniq (.lst hH rs)
          subst this
          have nd := ns.2 (w4'.less (.dropL _ _)).nd
          rw [List.cons_append, List.nodup_cons] at nd
          exact fun z => nd.1 (List.mem_append_left _ z)
        have haB : a0 ∉ fb := fun z => haT (List.mem_cons_of_mem _ z)
        have mo : ∀ {v : List V} {d : List Z.D} {f : List Addr} {o : HO}, Ros C.K F4 H4 v d f → a0 ∉ f → Ros C.K F4 (upd H4 a0 o) v d f := fun r n => r.mono (.refl _) fun p hp => upd_ne fun z => n (by rw [← z]; exact hp)
        obtain ⟨ga, gb, a1, b1, eg⟩ := Ros.take i.toNat rs
        obtain ⟨gc, gd, c1, d1, eh⟩ := Ros.take j.toNat rs
        have hga : a0 ∉ ga := fun z => haF (by rw [← eg]; exact List.mem_append_left _ z)
        have hgd : a0 ∉ gd := fun z => haF (by rw [← eh]; exact List.mem_append_right _ z)
        have lenI : i.toNat ≤ j.toNat := by omega
        -- what stands between is dropped
        obtain ⟨gm, gd', cm, dm, em⟩ := Ros.take (j.toNat - i.toNat) b1
        have ed : gd' = gd := by
          have e1 : (ys.drop i.toNat).drop (j.toNat - i.toNat) = ys.drop j.toNat := by rw [List.drop_drop]; congr 1; omega
          have e2 : (ds.drop i.toNat).drop (j.toNat - i.toNat) = ds.drop j.toNat := by rw [List.drop_drop]; congr 1; omega
          rw [e1, e2] at dm
          exact dm.uniq d1
        subst ed
        refine ⟨j, rh.int_inv, a0, b0, ys, ws, rfl, rfl, hH, hB2, hne, hc.1, hc.2.1, by rw [rs.len]; exact hc.2.2.1, by rw [rs.len, rb.len, ← sizeL_eq]; exact hc.2.2.2, ?_⟩
        have rs' : Ros C.K F4 (upd H4 a0 (.lst (ys.take i.toNat ++ ws ++ ys.drop j.toNat))) (ys.take i.toNat ++ ws ++ ys.drop j.toNat) (ds.take i.toNat ++ zs ++ ds.drop j.toNat) (ga ++ fb ++ gd') :=
          ((mo a1 hga).app (mo rb haB)).app (mo d1 hgd)
        have hex : NS ((ga ++ fb ++ gd') ++ (b0 :: gm)) (b0 :: fb ++ fl) := by
          refine .perm ?_
          rw [List.perm_iff_count]
          intro x
          rw [← eg, ← em]
          simp only [List.count_append, List.count_cons]
          omega
        obtain ⟨fp5, er5, k⟩ := m (b0 :: fb) _ _ w4' (fun p hp => by
          rcases List.mem_cons.mp hp with z | z
          · rw [z, hB2]; intro y; cases y
          · exact rb.dom p z) rs' ⟨_, hex⟩
        have k := k _ hex
        have hin : a0 ∈ (b0 :: fb) ++ fp4 := List.mem_append_right _ haf
        exact post5.nx (g4'.trans (Go.write hin)) (w4'.write hin) ((NS.dropL _ fp5).trans k) er5
theorem cs_stA {p : LP} {k a : LE} {o : Bop} {tp tk ta : TE} (ha : CE1 C a ta) (hp : CompP C p tp) (hk : CE1 C k tk) (hpu : pureE k = true) (hpa : pureE a = true) :
    CompS C (tAugS tp tk ta (rIxL C.K) (rIop C.K o) rSetL) (evS C.phi C.wf (.stA p k o a)) := by
  intro σ H e F fp D er wd post
  simp only [evS] at post
  refine place_key (T := []) hp hk hpu er (.refl F H fp) wd (fun _ z => by cases z) post fun q kd e2 b w F2 H2 fp2 gg g2 w2 st2 x2 er2 ⟨v0, hv0, re⟩ rk post2 => ?_
  simp only [lift_andThen] at post2
  cases hg : getP e2 q.1 q.2 with
  | none => simp only [hg] at post2; exact post2.elim
  | some d =>
    simp only [hg] at post2
    cases d <;> first | exact False.elim post2 | skip
    rename_i m ds
    cases m <;> first | exact False.elim post2 | skip
    cases kd <;> first | exact False.elim post2 | skip
    rename_i kk
    simp only [] at post2
    cases hj : ixP ds.length kk with
    | none => simp only [hj] at post2; exact post2.elim
    | some j =>
      simp only [hj] at post2
      cases hc : ds[j]? with
      | none => simp only [hc] at post2; exact post2.elim
      | some c =>
        simp only [hc] at post2
        by_cases hs : scalD c = true
        · simp only [hs, if_true] at post2
          obtain ⟨a0, ys, fl, rfl, hH, rs, _, _⟩ := lst_at er2 w2 hv0 re hg
          obtain ⟨y0, f0, hy0, ry0, _⟩ := rs.get hc
          obtain ⟨rf, rfl⟩ := ry0.scal hs
          refine ⟨a0, ys, kk, y0, rfl, rk.int_inv, .of hH, by unfold atI; rw [rs.len, ← ixP_eq, hj]; exact hy0, ?_⟩
          refine bindT (T := []) (fun Q z => ha σ H2 e2 F2 fp2 Q er2 w2 z) g2 w2 (fun _ z => by cases z) post2 fun y e3 u F3 H3 f3 fp3 g3 w3 st3 x3 er3 r3 pu3 post3 => ?_
          obtain ⟨s3, e3'⟩ := pu3 hpa
          subst e3'
          obtain ⟨g', r3⟩ := r3.ro
          cases hi : iop o c y with
          | none => simp only [hi] at post3; exact post3.elim
          | some z =>
            simp only [hi] at post3
            refine ⟨F3, c, y, z, [], g', .frz (rf.mono x3), r3, hi, fun u' ru => ?_⟩
            have w3' : Wd F3 H3 fp3 C.fb := w3.less (.dropL f3 fp3)
            have g3' : Go F H fp F3 H3 fp3 := g3.less fun q hq => List.mem_append_right f3 hq
            obtain ⟨a1, ys1, fl1, ea, hH1, rs1, _, m⟩ := lst_at er3 w3' hv0 (re.mono s3) hg
            cases ea
            cases hpt : putP e3 q.1 q.2 (.lst true (ds.set j z)) with
            | none => simp only [hpt] at post3; exact post3.elim
            | some e4 =>
              simp only [hpt] at post3
              obtain ⟨haf, m⟩ := m hpt
              refine ⟨a0, ys1, kk, j, rfl, rk.int_inv, hH1, by rw [rs1.len, ← ixP_eq]; exact hj, ?_⟩
              obtain ⟨y1, fc, rest, _, _, n1, n1', mk⟩ := rs1.set hc
              have haF : a0 ∉ fl1 := by
                obtain ⟨v0', y, fy, hv0', re', ry, mm⟩ := er3.focus hg
                rw [hv0] at hv0'
                obtain rfl := Option.some.inj (Option.some.inj hv0')
                obtain rfl := (re.mono s3).det re'
                obtain ⟨rest, ns, _⟩ := mm hpt
                have := ry.uniq (.lst hH1 rs1)
                subst this
                have nd := ns.2 w3'.nd
                rw [List.cons_append, List.nodup_cons] at nd
                exact fun z => nd.1 (List.mem_append_left _ z)
              obtain ⟨fT, rs', k1, k2⟩ := mk (F' := F3) (H' := upd H3 a0 (.lst (ys1.set j u'))) (.refl _) (fun p hp => upd_ne fun z => haF (by rw [← z]; exact n1.1 p (List.mem_append_right _ hp))) (.frz (ru F3))
              have hex : NS (fT ++ fc) ([] ++ fl1) := by
                refine (k1.right fc).trans ?_
                exact (NS.swap rest fc).trans n1
              obtain ⟨fp4, er4, k⟩ := m [] fT (ys1.set j u') w3' (fun _ z => by cases z) rs' ⟨fc, hex⟩
              have k := k fc hex
              exact post3.nx (g3'.trans (Go.write haf)) (w3'.write haf) ((NS.dropL fc fp4).trans k) er4
        · simp only [hs, if_false, Bool.false_eq_true] at post2; exact post2.elim
theorem get_dict (hu : X.A.units + 1 < cLine) : PGet X (fun x y H Q => ∃ a v, x = .ref a ∧ DGet H a y (some v) ∧ Q v H) := by
  intro pins s σ H x y v u Q I rx ry h
  obtain ⟨a, w, rfl, g, q⟩ := h
  obtain rfl : v = Value.ref a := rx
  exact d_getItem hu I g ry fun w' s3 I3 rw' => ⟨w, H, I3, rw', q⟩
theorem cs_skA {p : LP} {k a : LE} {o : Bop} {tp tk ta : TE} (ha : CE1 C a ta) (hp : CompP C p tp) (hk : CE1 C k tk) (hpu : pureE k = true) (hpa : pureE a = true) :
    CompS C (tAugS tp tk ta (fun x y H Q => ∃ a v, x = .ref a ∧ DGet H a y (some v) ∧ Q v H) (rIop C.K o) rSetD) (evS C.phi C.wf (.skA p k o a)) := by
  intro σ H e F fp D er wd post
  simp only [evS] at post
  refine place_key (T := []) hp hk hpu er (.refl F H fp) wd (fun _ z => by cases z) post fun q kd e2 b w F2 H2 fp2 gg g2 w2 st2 x2 er2 ⟨v0, hv0, re⟩ rk post2 => ?_
  simp only [lift_andThen] at post2
  cases hg : getP e2 q.1 q.2 with
  | none => simp only [hg] at post2; exact post2.elim
  | some d =>
    simp only [hg] at post2
    cases hd : dicGet d kd with
    | none => simp only [hd] at post2; exact post2.elim
    | some c =>
      simp only [hd] at post2
      obtain ⟨ks, ds, s, j, rfl, rfl, hj, hc⟩ := dicGet_inv hd
      by_cases hs : scalD c = true
      · simp only [hs, if_true] at post2
        obtain ⟨a0, ys, fl, rfl, hH, hl, hn, rs, _, _⟩ := dic_at er2 w2 hv0 re hg
        obtain ⟨y0, f0, hy0, ry0, _⟩ := rs.get hc
        obtain ⟨rf, rfl⟩ := ry0.scal hs
        have ek : w = kV (.inr ⟨s.toArray⟩) := rk.str_inv
        have dg := DGet.k (k := .inr ⟨s.toArray⟩) hH
        rw [valV_kvL hj, hy0, ← ek] at dg
        refine ⟨a0, y0, rfl, dg, ?_⟩
        refine bindT (T := []) (fun Q z => ha σ H2 e2 F2 fp2 Q er2 w2 z) g2 w2 (fun _ z => by cases z) post2 fun y e3 u F3 H3 f3 fp3 g3 w3 st3 x3 er3 r3 pu3 post3 => ?_
        obtain ⟨s3, e3'⟩ := pu3 hpa
        subst e3'
        obtain ⟨g', r3⟩ := r3.ro
        cases hi : iop o c y with
        | none => simp only [hi] at post3; exact post3.elim
        | some z =>
          simp only [hi] at post3
          refine ⟨F3, c, y, z, [], g', .frz (rf.mono x3), r3, hi, fun u' ru => ?_⟩
          have w3' : Wd F3 H3 fp3 C.fb := w3.less (.dropL f3 fp3)
          have g3' : Go F H fp F3 H3 fp3 := g3.less fun q hq => List.mem_append_right f3 hq
          obtain ⟨a1, ys1, fl1, ea, hH1, hl1, hn1, rs1, _, m⟩ := dic_at er3 w3' hv0 (re.mono s3) hg
          cases ea
          cases hz : dicSet (.dic ks ds) (.str s) z with
          | none => simp only [hz] at post3; exact post3.elim
          | some zz =>
            simp only [hz] at post3
            obtain ⟨ks', ds', s', j', e1, e2', h100, hj', rfl⟩ := dicSet_inv hz
            cases e1
            cases e2'
            obtain rfl : j' = j := by rw [hj] at hj'; exact (Option.some.inj hj').symm
            cases hpt : putP e3 q.1 q.2 (.dic ks (ds.set j' z)) with
            | none => simp only [hpt] at post3; exact post3.elim
            | some e4 =>
              simp only [hpt] at post3
              obtain ⟨haf, m⟩ := m hpt
              have hy : ys1.length = ks.length := by rw [rs1.len, hl1]
              have dp : DPut H3 a0 w u' (upd H3 a0 (.dK (kvL ks (ys1.set j' u')))) := by
                rw [ek, ← put_kvL hn1 hy hj]
                exact DPut.k hH1 (Nat.lt_of_le_of_lt (kvL_le ks ys1) (by rw [sizeLine_eq]; omega))
              refine (show ∃ a H', V.ref a0 = .ref a ∧ DPut H3 a w u' H' ∧ D.nx σ H' from ⟨a0, _, rfl, dp, ?_⟩)
              obtain ⟨y1, fc, rest, _, _, n1, n1', mk⟩ := rs1.set hc
              have haF : a0 ∉ fl1 := by
                obtain ⟨v0', y, fy, hv0', re', ry, mm⟩ := er3.focus hg
                rw [hv0] at hv0'
                obtain rfl := Option.some.inj (Option.some.inj hv0')
                obtain rfl := (re.mono s3).det re'
                obtain ⟨rest, ns, _⟩ := mm hpt
                have := ry.uniq (.dic hH1 hl1 hn1 rs1)
                subst this
                have nd := ns.2 w3'.nd
                rw [List.cons_append, List.nodup_cons] at nd
                exact fun z => nd.1 (List.mem_append_left _ z)
              obtain ⟨fT, rs', k1, k2⟩ := mk (F' := F3) (H' := upd H3 a0 (.dK (kvL ks (ys1.set j' u')))) (.refl _) (fun p hp => upd_ne fun z => haF (by rw [← z]; exact n1.1 p (List.mem_append_right _ hp))) (.frz (ru F3))
              have hex : NS (fT ++ fc) ([] ++ fl1) := by
                refine (k1.right fc).trans ?_
                exact (NS.swap rest fc).trans n1
              obtain ⟨fp4, er4, k⟩ := m [] fT (ys1.set j' u') (by simp) w3' (fun _ z => by cases z) rs' ⟨fc, hex⟩
              have k := k fc hex
              exact post3.nx (g3'.trans (Go.write haf)) (w3'.write haf) ((NS.dropL fc fp4).trans k) er4
      · simp only [hs, if_false, Bool.false_eq_true] at post2; exact post2.elim
end
end Z

set_option Elab.async false
set_option linter.all false
set_option maxRecDepth 100000
set_option maxHeartbeats 4000000
/-! ZE: enumerate of a text. -/
namespace Z
open PySem L2 PyProof.Rows

def IteS (x : Str) : It :=
  ⟨fun i _ => i < x.cps.size, fun i H v H' => ∃ T c, v = .ref T ∧ H T = none ∧ H' = upd H T (.tup [.int (i : Nat), .str ⟨#[c]⟩]) ∧ x.cps[i]? = some c, fun i _ => i = x.cps.size⟩
theorem draws_str {prog : Program} {w : World} {A : Around} (hh : A.handled = none) (it : Addr) (x : Str) (t : Tok) :
    Draws prog w A it [it] x.cps.size (fun i v => ∃ c u, x.cps[i]? = some c ∧ v = .str ⟨#[c]⟩ u) (fun i h => h.IsStrIter it (strIterType x) x t i) := by
  cases ha : x.cps.all (· < 128)
  · have e : strIterType x = "str_iterator" := by simp [strIterType, ha]
    rw [e]; exact Draws.strWide hh it x t
  · have e : strIterType x = "str_ascii_iterator" := by simp [strIterType, ha]
    rw [e]; exact Draws.strAscii hh it x t
theorem turn_enumS {P : Program} {w : World} {K : PySem.W.Frag} {elts : List Expr} {kk : Nat} {tpos : Pos} (x : Str) (t : Tok) (e it : Addr) :
    Turn P w K (.Tuple elts kk tpos) (IteS x) [e, it] e (fun i h => (∃ old, IsEnum h e it ((i : Nat) : Int) old) ∧ h.IsStrIter it (strIterType x) x t i ∧ e ≠ it) where
  mem := by simp
  obj := fun i h st b hb => by
    obtain ⟨⟨old, he⟩, ⟨o, ho, hc, hd⟩, _⟩ := st
    have e' : b = e ∨ b = it := by simpa using hb
    rcases e' with z | z
    · rw [z]; exact ⟨_, he, fun v q => nomatch q⟩
    · rw [z]; exact ⟨o, ho, fun v q => by rw [hd] at q; cases q⟩
  keep := fun i h h' st k => let ⟨⟨old, he⟩, ⟨o, ho, r⟩, hne⟩ := st; ⟨⟨old, k e (by simp) _ he⟩, ⟨o, k it (by simp) o ho, r⟩, hne⟩
  item := by
    intro X hP hw hK hc i pins s σ H E I hf st hg
    subst hP hw hK
    obtain ⟨⟨old, he⟩, hit, hne⟩ := st
    have hel : e < s.heap.objs.size := Heap.lt_size he
    have hil : it < s.heap.objs.size := by obtain ⟨_, q, _⟩ := hit; exact Heap.lt_size q
    have D := draws_str (prog := X.prog) (w := X.w) (A := X.A.in1) (I.ok.hd hc) it x t
    refine wpAny_pyNext_enum_itemC D he hit hg hne (by simpa using hne) fun v h' tk hP ho hit' hT hsz hk => ?_
    obtain ⟨c, u, hcx, rfl⟩ := hP
    refine ⟨_, rfl, wpAny_letOwnedTupleGo_enum (s := { s with heap := h', toks := tk + 1 }) ho fun h'' he' sb => ?_⟩
    have hT2 : h''.get? s.heap.objs.size = some { cls := .type "tuple", data := .seq #[.int i tk, .str ⟨#[c]⟩ u] } := (sb.2 _ (Nat.ne_of_gt hel)).trans hT
    have new : ObjOk X.prog X.w (upd H s.heap.objs.size (.tup [.int (i : Nat), .str ⟨#[c]⟩])) h'' s.heap.objs.size (.tup [.int (i : Nat), .str ⟨#[c]⟩]) :=
      ⟨by show 2 ≤ sizeLine; decide, [.int i tk, .str ⟨#[c]⟩ u], .cons ⟨_, rfl⟩ (.cons ⟨_, rfl⟩ .nil), ⟨_, hT2, rfl, _, rfl⟩⟩
    have I1 : Inv X pins σ (upd H s.heap.objs.size (.tup [.int (i : Nat), .str ⟨#[c]⟩])) { s with heap := h'', toks := tk + 1 } :=
      I.turnedNew (ch := [e, it]) (fun b ob hb q => (sb.2 b (fun z => hb (by simp [z]))).trans (hk b ob (fun z => hb (by simp [z])) (fun z => hb (by simp [z])) q)) hf (Nat.le_refl _) new
    obtain ⟨oi, hoi, hic, hid⟩ := hit'
    refine ⟨.ref s.heap.objs.size, _, I1, rfl, ⟨_, c, rfl, I.hok.fresh (Nat.le_refl _), rfl, hcx⟩, ⟨⟨.str ⟨#[c]⟩ u, ?_⟩, ⟨oi, (sb.2 it (Ne.symm hne)).trans hoi, hic, hid⟩, hne⟩, fun b hb => ?_⟩
    · have e1 : ((i + 1 : Nat) : Int) = (i : Int) + 1 := by omega
      rw [e1]; exact he'
    · have hb' : b < s.heap.objs.size := by
        have e' : b = e ∨ b = it := by simpa using hb
        rcases e' with z | z
        · rw [z]; exact hel
        · rw [z]; exact hil
      rw [upd_ne (Nat.ne_of_lt hb')]
      exact (hf b hb).1
  done := by
    intro X hP hw hK hc i pins s σ H E I hf st hg
    subst hP hw hK
    obtain ⟨⟨old, he⟩, hit, hne⟩ := st
    obtain ⟨f0, f1, f2, f3, f4, f5⟩ := hf it (by simp)
    have D := draws_str (prog := X.prog) (w := X.w) (A := X.A.in1) (I.ok.hd hc) it x t
    have hg : i = x.cps.size := hg
    subst hg
    exact wpAny_pyNext_enum_endD D he hit fun h' eb => ⟨rfl, I.turned (t' := s.toks) (fun b o hb q => eb b o (fun z => hb (by simp [z])) q) f0 f1 f3 f4 f5⟩
  self := fun A i s Q E st h => let ⟨⟨_, he⟩, _⟩ := st; wpAny_pyIter_enum he h
def iEnumS (ta : TA) : TI := fun σ H R => ta σ H fun vs H1 => ∃ x, vs = [.str x] ∧ R (IteS x) H1
theorem pi_enumS {X : Cx} {e : Expr} {ta : TA} {p pos tpos : Pos} {elts : List Expr} {kk : Nat} (hg : Gl X "enumerate") (hm : X.mg "enumerate" = none) (ha : PA X [e] ta) (hs : starEach [e] X.env = [(false, eval e X.env)] := by rfl) :
    PI X (.Tuple elts kk tpos) (.Call (.Name "enumerate" p) [e] [] pos) (iEnumS ta) := by
  refine ⟨fun pins s σ H R I h => ?_⟩
  refine Call_ (ld_blt I hg hm boot_enumerate (PyProof.Rows.callWith_type1 (thn (ha.run pos pins s σ H _ I h) fun us s1 ⟨vs, H1, I1, r1, q1⟩ => ?_) hs rfl))
  obtain ⟨x, ex, q⟩ := q1
  subst ex
  cases r1 with
  | cons r rr =>
    cases rr
    obtain ⟨t, rfl⟩ := r
    refine call_enumerate_str fun h' he hit hsz hk => wpAny_pyIter_enum he ?_
    have I2 : Inv X pins σ H1 { s1 with heap := h' } := I1.kept (t' := s1.toks) hk
    refine ⟨s1.heap.objs.size + 1, [s1.heap.objs.size + 1, s1.heap.objs.size], _, _, H1, rfl, I2, turn_enumS x t (s1.heap.objs.size + 1) s1.heap.objs.size, ⟨⟨.none, he⟩, hit, Nat.succ_ne_self _⟩, fun b hb => ?_, q⟩
    have e' : b = s1.heap.objs.size + 1 ∨ b = s1.heap.objs.size := by simpa using hb
    have hle : s1.heap.objs.size ≤ b := by
      rcases e' with z | z
      · rw [z]; exact Nat.le_add_right _ _
      · rw [z]; exact Nat.le_refl _
    exact I1.fpOk hle (I1.hok.fresh hle)
end Z

set_option Elab.async false
set_option linter.all false
set_option maxRecDepth 100000
set_option maxHeartbeats 4000000
/-! Z12: iterators, for, comprehensions. -/
namespace Z
open PySem L2 PyProof.Rows
open RZ (ItzT)
open ZZ (ItzM iZipB pi_zipB)

/-- the iterator gives the data xs -/
structure ItR (K : PySem.W.Frag) (J : It) (F : Hp) (xs : List D) : Prop where
  go : ∀ i H, Same F H → i < xs.length → J.go i H
  stop : ∀ H, Same F H → J.stop xs.length H
  yld : ∀ i H x H' d, Same F H → J.yld i H x H' → xs[i]? = some d → (H' = H ∧ Rf K F x d) ∨ ∃ T vs ds, H' = upd H T (.tup vs) ∧ H T = none ∧ x = .ref T ∧ d = .tup true ds ∧ Rfs K F vs ds
theorem ItR.mono {K : PySem.W.Frag} {J : It} {F F' : Hp} {xs : List D} (h : ItR K J F xs) (e : Same F F') : ItR K J F' xs :=
  ⟨fun i H s l => h.go i H (e.trans s) l, fun H s => h.stop H (e.trans s), fun i H x H' d s y k => by
    rcases h.yld i H x H' d (e.trans s) y k with ⟨a, b⟩ | ⟨T, vs, ds, a, b, c, d, r⟩
    · exact .inl ⟨a, b.mono e⟩
    · exact .inr ⟨T, vs, ds, a, b, c, d, r.mono e⟩⟩
def RI (K : PySem.W.Frag) : RR (List D) It := fun F H f J xs => f = [] ∧ ItR K J F xs
section
variable {K : PySem.W.Frag}
theorem itr_list {F : Hp} {a : Addr} {vs : List V} {ds : List D} (h : SqL K F a vs) (r : Rfs K F vs ds) : ItR K (Itl K a) F ds := by
  refine ⟨fun i H s l => ?_, fun H s => ⟨vs, same_l s h, by rw [r.len]; exact Nat.le_refl _⟩, fun i H x H' d s y k => ?_⟩
  · obtain ⟨x, hx, _⟩ := r.get (show ds[i]? = some ds[i] by simp [l])
    exact ⟨vs, x, same_l s h, hx⟩
  · obtain ⟨e, y⟩ := y
    obtain ⟨x', hx, rx⟩ := r.get k
    have := y vs (same_l s h)
    rw [hx] at this; cases this
    exact .inl ⟨e, rx⟩
theorem itr_tup {F : Hp} {a : Addr} {vs : List V} {ds : List D} (h : SqT K F a vs) (r : Rfs K F vs ds) : ItR K (Itt K a) F ds := by
  refine ⟨fun i H s l => ?_, fun H s => ⟨vs, same_t s h, by rw [r.len]; exact Nat.le_refl _⟩, fun i H x H' d s y k => ?_⟩
  · obtain ⟨x, hx, _⟩ := r.get (show ds[i]? = some ds[i] by simp [l])
    exact ⟨vs, x, same_t s h, hx⟩
  · obtain ⟨e, y⟩ := y
    obtain ⟨x', hx, rx⟩ := r.get k
    have := y vs (same_t s h)
    rw [hx] at this; cases this
    exact .inl ⟨e, rx⟩
theorem itr_str {F : Hp} {s : List Nat} : ItR K (Its ⟨s.toArray⟩) F (s.map fun c => .str [c]) := by
  refine ⟨fun i H _ l => by simpa [Its] using l, fun H _ => by simp [Its], fun i H x H' d _ y k => ?_⟩
  obtain ⟨e, c, hc, ev⟩ := y
  refine .inl ⟨e, ?_⟩
  simp only [List.getElem?_map, Option.map_eq_some_iff] at k
  obtain ⟨c', hc', ed⟩ := k
  have hc : s[i]? = some c := by simpa using hc
  rw [hc] at hc'; cases hc'
  subst ed ev
  exact Rf.str [c]
theorem itr_rng {F : Hp} {lo : Int} {n : Nat} : ItR K (Itr lo n) F ((List.range n).map fun k => .int (lo + (k : Nat))) := by
  refine ⟨fun i H _ l => by simpa [Itr] using l, fun H _ => by simp [Itr], fun i H x H' d _ y k => ?_⟩
  obtain ⟨e, ev⟩ := y
  refine .inl ⟨e, ?_⟩
  simp only [List.getElem?_map, Option.map_eq_some_iff] at k
  obtain ⟨c', hc', ed⟩ := k
  have : c' = i := by
    rw [List.getElem?_range] at hc'
    · exact (Option.some.inj hc').symm
    · have := (List.getElem?_eq_some_iff.mp hc').1
      simpa using this
  subst ed ev this
  exact .int _
theorem itr_enu {F : Hp} {a : Addr} {vs : List V} {ds : List D} (h : SqL K F a vs) (r : Rfs K F vs ds) : ItR K (Ite K a) F (enumI ds) := by
  have hl : (enumI ds).length = ds.length := by simp [enumI]
  refine ⟨fun i H s l => ?_, fun H s => ⟨vs, same_l s h, by rw [r.len, hl]; exact Nat.le_refl _⟩, fun i H x H' d s y k => ?_⟩
  · rw [hl] at l
    obtain ⟨x, hx, _⟩ := r.get (show ds[i]? = some ds[i] by simp [l])
    exact ⟨vs, x, same_l s h, hx⟩
  · obtain ⟨T, x0, ex, hT, eH, y⟩ := y
    have hi : i < ds.length := by
      rw [← hl]
      exact (List.getElem?_eq_some_iff.mp k).1
    obtain ⟨x', hx, rx⟩ := r.get (show ds[i]? = some ds[i] by simp [hi])
    have := y vs (same_l s h)
    rw [hx] at this; cases this
    have hd : d = .tup true [.int (i : Nat), ds[i]] := by
      have : (enumI ds)[i]? = some (.tup true [.int (i : Nat), ds[i]]) := by
        unfold enumI
        rw [List.getElem?_zipWith]
        simp [hi]
      rw [this] at k; exact (Option.some.inj k).symm
    exact .inr ⟨T, _, _, eH, hT, ex, hd, .cons (.int _) (.cons rx .nil)⟩
theorem itr_enuS {F : Hp} {s : List Nat} : ItR K (IteS ⟨s.toArray⟩) F (enumI (s.map fun c => .str [c])) := by
  have hl : (enumI (s.map fun c => D.str [c])).length = s.length := by simp [enumI]
  refine ⟨fun i H _ l => ?_, fun H _ => ?_, fun i H x H' d _ y k => ?_⟩
  · rw [hl] at l
    show i < s.toArray.size
    simpa using l
  · show _ = s.toArray.size
    simp [hl]
  · obtain ⟨T, c, ex, hT, eH, hc⟩ := y
    have hi : i < s.length := by
      rw [← hl]
      exact (List.getElem?_eq_some_iff.mp k).1
    have hc : s[i]? = some c := by simpa using hc
    have hd : d = .tup true [.int (i : Nat), .str [c]] := by
      have : (enumI (s.map fun c => D.str [c]))[i]? = some (.tup true [.int (i : Nat), .str [c]]) := by
        unfold enumI
        rw [List.getElem?_zipWith]
        have hr : (List.range (s.map fun c => D.str [c]).length)[i]? = some i := by
          rw [List.getElem?_range]
          simpa using hi
        rw [hr, List.getElem?_map, hc]
        rfl
      rw [this] at k; exact (Option.some.inj k).symm
    exact .inr ⟨T, _, _, eH, hT, ex, hd, .cons (.int _) (.cons (.str [c]) .nil)⟩
theorem zip_get {α β γ : Type} {f : α → β → γ} {xs : List α} {ys : List β} {i : Nat} {d : γ} (h : (List.zipWith f xs ys)[i]? = some d) : ∃ x y, xs[i]? = some x ∧ ys[i]? = some y ∧ d = f x y := by
  rw [List.getElem?_zipWith] at h
  cases hx : xs[i]? with
  | none => simp [hx] at h
  | some x => cases hy : ys[i]? with
    | none => simp [hx, hy] at h
    | some y => simp [hx, hy] at h; exact ⟨x, y, rfl, rfl, h.symm⟩
theorem itr_zip {F : Hp} {a b : Addr} {vs ws : List V} {ds es : List D} (h : SqL K F a vs) (r : Rfs K F vs ds) (h2 : SqL K F b ws) (r2 : Rfs K F ws es) : ItR K (Itz K a b) F (zipI ds es) := by
  have hl : (zipI ds es).length = min ds.length es.length := by simp [zipI]
  refine ⟨fun i H s l => ?_, fun H s => ⟨vs, ws, same_l s h, same_l s h2, by rw [hl, r.len, r2.len]; omega⟩, fun i H x H' d s y k => ?_⟩
  · rw [hl] at l
    obtain ⟨x, hx, _⟩ := r.get (show ds[i]? = some (ds[i]'(by omega)) by simp)
    obtain ⟨z, hz, _⟩ := r2.get (show es[i]? = some (es[i]'(by omega)) by simp)
    exact ⟨vs, ws, x, z, same_l s h, same_l s h2, hx, hz⟩
  · obtain ⟨T, x0, y0, ex, hT, eH, y1, y2⟩ := y
    obtain ⟨d1, d2, k1, k2, kd⟩ := zip_get k
    obtain ⟨x', hx, rx⟩ := r.get k1
    obtain ⟨z', hz, rz⟩ := r2.get k2
    have := y1 vs (same_l s h)
    rw [hx] at this; cases this
    have := y2 ws (same_l s h2)
    rw [hz] at this; cases this
    exact .inr ⟨T, _, _, eH, hT, ex, kd, .cons rx (.cons rz .nil)⟩
theorem itr_zipT {F : Hp} {a b : Addr} {vs ws : List V} {ds es : List D} (h : SqT K F a vs) (r : Rfs K F vs ds) (h2 : SqT K F b ws) (r2 : Rfs K F ws es) : ItR K (ItzT K a b) F (zipI ds es) := by
  have hl : (zipI ds es).length = min ds.length es.length := by simp [zipI]
  refine ⟨fun i H s l => ?_, fun H s => ⟨vs, ws, same_t s h, same_t s h2, by rw [hl, r.len, r2.len]; omega⟩, fun i H x H' d s y k => ?_⟩
  · rw [hl] at l
    obtain ⟨x, hx, _⟩ := r.get (show ds[i]? = some (ds[i]'(by omega)) by simp)
    obtain ⟨z, hz, _⟩ := r2.get (show es[i]? = some (es[i]'(by omega)) by simp)
    exact ⟨vs, ws, x, z, same_t s h, same_t s h2, hx, hz⟩
  · obtain ⟨T, x0, y0, ex, hT, eH, y1, y2⟩ := y
    obtain ⟨d1, d2, k1, k2, kd⟩ := zip_get k
    obtain ⟨x', hx, rx⟩ := r.get k1
    obtain ⟨z', hz, rz⟩ := r2.get k2
    have := y1 vs (same_t s h)
    rw [hx] at this; cases this
    have := y2 ws (same_t s h2)
    rw [hz] at this; cases this
    exact .inr ⟨T, _, _, eH, hT, ex, kd, .cons rx (.cons rz .nil)⟩
theorem itr_zipM {F : Hp} {a b : Addr} {vs ws : List V} {ds es : List D} (h : SqL K F a vs) (r : Rfs K F vs ds) (h2 : SqT K F b ws) (r2 : Rfs K F ws es) : ItR K (ItzM K a b) F (zipI ds es) := by
  have hl : (zipI ds es).length = min ds.length es.length := by simp [zipI]
  refine ⟨fun i H s l => ?_, fun H s => ⟨vs, ws, same_l s h, same_t s h2, by rw [hl, r.len, r2.len]; omega⟩, fun i H x H' d s y k => ?_⟩
  · rw [hl] at l
    obtain ⟨x, hx, _⟩ := r.get (show ds[i]? = some (ds[i]'(by omega)) by simp)
    obtain ⟨z, hz, _⟩ := r2.get (show es[i]? = some (es[i]'(by omega)) by simp)
    exact ⟨vs, ws, x, z, same_l s h, same_t s h2, hx, hz⟩
  · obtain ⟨T, x0, y0, ex, hT, eH, y1, y2⟩ := y
    obtain ⟨d1, d2, k1, k2, kd⟩ := zip_get k
    obtain ⟨x', hx, rx⟩ := r.get k1
    obtain ⟨z', hz, rz⟩ := r2.get k2
    have := y1 vs (same_l s h)
    rw [hx] at this; cases this
    have := y2 ws (same_t s h2)
    rw [hz] at this; cases this
    exact .inr ⟨T, _, _, eH, hT, ex, kd, .cons rx (.cons rz .nil)⟩
end

def pureI : LI → Bool
  | .val a => pureE a
  | .rng1 a => pureE a
  | .rng2 a b => pureE a && pureE b
  | .enu a => pureE a
  | .zip a b => pureE a && pureE b
def CompI (C : Cz) (s : LI) (t : TI) : Prop := Comp C (RI C.K) false t (evI C.phi s)
theorem pi_or {X : Cx} {tg e : Expr} {t u : TI} (h : PI X tg e t) (k : PI X tg e u) : PI X tg e (fun σ H R => t σ H R ∨ u σ H R) :=
  ⟨fun pins s σ H R I hw => hw.elim (h.run pins s σ H R I) (k.run pins s σ H R I)⟩
section
variable {C : Cz}
/-- an owned value freezes -/
theorem frz_step {F H F1 H1 : Hp} {fp f fp1 : List Addr} {e1 : Env} {σ : L2.St} {v : V} {x : D} (g : Go F H fp F1 H1 (f ++ fp1)) (w : Wd F1 H1 (f ++ fp1) C.fb) (er : EnvR C.K F1 H1 C.fb C.s0 σ e1 fp1) (ro : Ro C.K F1 H1 v x f) (hz : canF x = true) :
    ∃ F2, Go F H fp F2 H1 fp1 ∧ Wd F2 H1 fp1 C.fb ∧ EnvR C.K F2 H1 C.fb C.s0 σ e1 fp1 ∧ Rf C.K F2 v (frz x) ∧ Same F1 F2 := by
  have ff : ∀ p ∈ f, F1 p = none := fun p hp => w.un p (List.mem_append_left _ hp)
  exact ⟨glue F1 H1 f, g.trans (Go.freeze (fun _ h => h) ff), w.freeze, er.mono (glue_ext ff) (fun _ _ => rfl) fun _ _ => rfl, ro.freeze (F' := glue F1 H1 f) (glue_ext ff) hz fun p hp => glue_in hp, glue_ext ff⟩
theorem ci_val {a : LE} {ta : TE} (ha : CE1 C a ta) (hB : isB a = false) : CompI C (.val a) (fun σ H R => iList C.K ta σ H R ∨ iTup C.K ta σ H R ∨ iStr ta σ H R) := by
  intro σ H e F fp Q er wd post
  simp only [evI] at post
  cases hv : evE C.phi a e with
  | bad => rw [hv] at post; exact post.elim
  | xc c d e' => exact .inl (ha σ H e F fp _ er wd (by rw [hv]; rw [hv] at post; exact post))
  | ok x e' =>
    rw [hv] at post
    have go : ∀ (S : V → Hp → Prop), (∀ v F1 H1 f fp1, Go F H fp F1 H1 (f ++ fp1) → Wd F1 H1 (f ++ fp1) C.fb → EnvR C.K F1 H1 C.fb C.s0 σ e' fp1 → Ro C.K F1 H1 v x f → S v H1) → ta σ H S := fun S h => ha σ H e F fp S er wd (by
      rw [hv]
      intro v F' H' f fp' g w er' r _
      rw [hB] at r
      exact h v F' H' f fp' g w er' r)
    simp only [Res.andThen, itemsOf] at post
    by_cases hz : canF x = true
    · simp only [frz?, hz, if_true] at post
      have fin : ∀ {xs : List D} {J : It} {F2 H1 : Hp} {fp1 : List Addr}, Post C (RI C.K) false F H fp e σ (lift (some xs) e') Q → Go F H fp F2 H1 fp1 → Wd F2 H1 fp1 C.fb → EnvR C.K F2 H1 C.fb C.s0 σ e' fp1 → ItR C.K J F2 xs → Q J H1 := fun p g w er' it => p _ _ _ [] _ g w er' ⟨rfl, it⟩ fun z => by cases z
      cases hx : frz x <;> simp only [hx] at post <;> first | exact post.elim | skip
      · rename_i s
        refine .inr (.inr (go _ fun v F1 H1 f fp1 g w er' ro => ?_))
        obtain ⟨F2, g2, w2, er2, rf, _⟩ := frz_step g w er' ro hz
        rw [hx] at rf
        exact ⟨_, rf.str_inv, fin post g2 w2 er2 itr_str⟩
      · rename_i m xs
        refine .inr (.inl (go _ fun v F1 H1 f fp1 g w er' ro => ?_))
        obtain ⟨F2, g2, w2, er2, rf, _⟩ := frz_step g w er' ro hz
        rw [hx] at rf
        cases rf with
        | tup sq rs => exact ⟨_, rfl, ⟨_, same_t w2.ext sq⟩, fin post g2 w2 er2 (itr_tup sq rs)⟩
      · rename_i m xs
        refine .inl (go _ fun v F1 H1 f fp1 g w er' ro => ?_)
        obtain ⟨F2, g2, w2, er2, rf, _⟩ := frz_step g w er' ro hz
        rw [hx] at rf
        cases rf with
        | lst sq rs => exact ⟨_, rfl, ⟨_, same_l w2.ext sq⟩, fin post g2 w2 er2 (itr_list sq rs)⟩
    · simp only [frz?, hz, if_false, Bool.false_eq_true] at post; exact post.elim
theorem rng_of {lo hi : Int} {xs : List D} (h : rngI lo hi = some xs) : (-(2 ^ 62) ≤ lo ∧ lo < 2 ^ 62 ∧ -(2 ^ 62) ≤ hi ∧ hi < 2 ^ 62) ∧ xs = (List.range (hi - lo).toNat).map fun k => .int (lo + (k : Nat)) := by
  unfold rngI at h
  split at h
  · rename_i q; exact ⟨q, (Option.some.inj h).symm⟩
  · cases h
theorem int_of {K : PySem.W.Frag} {b : Bool} {F H : Hp} {f : List Addr} {v : V} {i : Int} (h : RV K b F H f v (.int i)) : v = .int i := by
  obtain ⟨_, r⟩ := h.ro
  exact r.int_inv
theorem ci_rng1 {a : LE} {ta : TE} (ha : CE1 C a ta) : CompI C (.rng1 a) (iRng1 (tCons ta tNil)) := by
  intro σ H e F fp Q er wd post
  simp only [evI] at post
  refine ha.bind er wd post fun x e1 v F1 H1 f fp1 g1 w1 er1 r1 _ post1 => ?_
  cases x <;> simp only [] at post1 <;> first | exact post1.elim | skip
  rename_i n
  cases hr : rngI 0 n with
  | none => simp only [hr, lift] at post1; exact post1.elim
  | some xs =>
    simp only [hr, lift] at post1
    obtain ⟨q, rfl⟩ := rng_of hr
    refine ⟨n, by rw [int_of r1], q.2.2.1, q.2.2.2, ?_⟩
    have := post1 (Itr 0 n.toNat) F1 H1 [] fp1 (g1.less sub_app) (w1.less (.dropL _ _)) er1 ⟨rfl, by simpa using itr_rng (K := C.K) (F := F1) (lo := 0) (n := n.toNat)⟩ fun z => by cases z
    exact this
theorem ci_rng2 {a b : LE} {ta tb : TE} (ha : CE1 C a ta) (hb : CE1 C b tb) (hp : isB a = true → pureE b = true) : CompI C (.rng2 a b) (iRng2 (tCons ta (tCons tb tNil))) := by
  intro σ H e F fp Q er wd post
  simp only [evI] at post
  refine Comp.two ha hb hp (fun z => by cases z) er wd post fun x y e2 v w F2 H2 f g fp2 g2 w2 er2 r1 r2 _ post2 => ?_
  cases x <;> cases y <;> simp only [] at post2 <;> first | exact post2.elim | skip
  rename_i m n
  cases hr : rngI m n with
  | none => simp only [hr, lift] at post2; exact post2.elim
  | some xs =>
    simp only [hr, lift] at post2
    obtain ⟨q, rfl⟩ := rng_of hr
    refine ⟨m, n, by rw [int_of r1, int_of r2], q, ?_⟩
    have ns : NS fp2 (f ++ (g ++ fp2)) := (NS.dropL g fp2).trans (.dropL _ _)
    exact post2 _ F2 H2 [] fp2 (g2.less ns.1) (w2.less ns) er2 ⟨rfl, itr_rng⟩ fun z => by cases z
theorem ci_enu {a : LE} {ta : TE} (ha : CE1 C a ta) (hB : isB a = false) : CompI C (.enu a) (fun σ H R => iEnum C.K (tCons ta tNil) σ H R ∨ iEnumS (tCons ta tNil) σ H R) := by
  intro σ H e F fp Q er wd post
  simp only [evI] at post
  cases hv : evE C.phi a e with
  | bad => rw [hv] at post; exact post.elim
  | xc c d e' => exact .inl (ha σ H e F fp _ er wd (by rw [hv]; rw [hv] at post; exact post))
  | ok x e' =>
    rw [hv] at post
    have go : ∀ (S : V → Hp → Prop), (∀ v F1 H1 f fp1, Go F H fp F1 H1 (f ++ fp1) → Wd F1 H1 (f ++ fp1) C.fb → EnvR C.K F1 H1 C.fb C.s0 σ e' fp1 → Ro C.K F1 H1 v x f → S v H1) → ta σ H S := fun S h => ha σ H e F fp S er wd (by
      rw [hv]
      intro v F' H' f fp' g w er' r _
      rw [hB] at r
      exact h v F' H' f fp' g w er' r)
    simp only [Res.andThen, enuOf, lift] at post
    by_cases hz : canF x = true
    · simp only [frz?, hz, if_true] at post
      cases hx : frz x <;> simp only [hx] at post <;> first | exact post.elim | skip
      · rename_i s
        refine .inr (go _ fun v F1 H1 f fp1 g w er' ro => ?_)
        obtain ⟨F2, g2, w2, er2, rf, _⟩ := frz_step g w er' ro hz
        rw [hx] at rf
        exact ⟨_, congrArg (· :: []) rf.str_inv, post _ _ _ [] _ g2 w2 er2 ⟨rfl, itr_enuS⟩ fun z => by cases z⟩
      · rename_i m xs
        refine .inl (go _ fun v F1 H1 f fp1 g w er' ro => ?_)
        obtain ⟨F2, g2, w2, er2, rf, _⟩ := frz_step g w er' ro hz
        rw [hx] at rf
        cases rf with
        | lst sq rs => exact ⟨_, _, rfl, same_l w2.ext sq, post _ _ _ [] _ g2 w2 er2 ⟨rfl, itr_enu sq rs⟩ fun z => by cases z⟩
    · simp only [frz?, hz, if_false, Bool.false_eq_true] at post; exact post.elim
theorem ci_zip {a b : LE} {ta tb : TE} (ha : CE1 C a ta) (hb : CE1 C b tb) (hA : isB a = false) (hB : isB b = false) : CompI C (.zip a b) (iZipB C.K (tCons ta (tCons tb tNil))) := by
  intro σ H e F fp Q er wd post
  simp only [evI] at post
  refine Comp.two ha hb (fun z => by rw [hA] at z; cases z) (fun z => by cases z) er wd post fun x y e2 v w F2 H2 f g fp2 g2 w2 er2 r1 r2 _ post2 => ?_
  rw [hA] at r1
  rw [hB] at r2
  simp only [zipO] at post2
  by_cases hz : canF x = true
  · by_cases hz2 : canF y = true
    · simp only [frz?, hz, hz2, if_true] at post2
      have e1 : f ++ (g ++ fp2) = (f ++ g) ++ fp2 := by simp
      rw [e1] at g2 w2
      have ff : ∀ p ∈ f ++ g, F2 p = none := fun p hp => w2.un p (List.mem_append_left _ hp)
      have g3 := g2.trans (Go.freeze (fun _ h => h) ff)
      have w3 := w2.freeze
      have er3 := er2.mono (F' := glue F2 H2 (f ++ g)) (glue_ext ff) (fun _ _ => rfl) fun _ _ => rfl
      have rf := r1.own.freeze (F' := glue F2 H2 (f ++ g)) (glue_ext ff) hz fun p hp => glue_in (List.mem_append_left _ hp)
      have rg := r2.own.freeze (F' := glue F2 H2 (f ++ g)) (glue_ext ff) hz2 fun p hp => glue_in (List.mem_append_right _ hp)
      cases hx : frz x <;> cases hy : frz y <;> simp only [hx, hy] at post2 <;> first | exact post2.elim | skip
      · rw [hx] at rf
        rw [hy] at rg
        cases rf with
        | tup sq rs => cases rg with
          | tup sq2 rs2 => exact ⟨_, _, _, _, rfl, .inr (.inl ⟨same_t w3.ext sq, same_t w3.ext sq2, post2 _ _ H2 [] fp2 g3 w3 er3 ⟨rfl, itr_zipT sq rs sq2 rs2⟩ fun z => by cases z⟩)⟩
      · rw [hx] at rf
        rw [hy] at rg
        cases rf with
        | lst sq rs => cases rg with
          | tup sq2 rs2 => exact ⟨_, _, _, _, rfl, .inr (.inr ⟨same_l w3.ext sq, same_t w3.ext sq2, post2 _ _ H2 [] fp2 g3 w3 er3 ⟨rfl, itr_zipM sq rs sq2 rs2⟩ fun z => by cases z⟩)⟩
      · rw [hx] at rf
        rw [hy] at rg
        cases rf with
        | lst sq rs => cases rg with
          | lst sq2 rs2 => exact ⟨_, _, _, _, rfl, .inl ⟨same_l w3.ext sq, same_l w3.ext sq2, post2 _ _ H2 [] fp2 g3 w3 er3 ⟨rfl, itr_zip sq rs sq2 rs2⟩ fun z => by cases z⟩⟩
    · simp only [frz?, hz, hz2, if_false, if_true, Bool.false_eq_true] at post2
      cases hx : frz x <;> simp only [hx] at post2 <;> exact post2.elim
  · simp only [frz?, hz, if_false, Bool.false_eq_true] at post2; exact post2.elim

/-! ### for -/
/-- what the iterator gives is owned -/
theorem ItR.step {F H H' : Hp} {fp E : List Addr} {J : It} {xs : List D} {i : Nat} {x : V} {d : D} {e : Env} {σ : L2.St} (it : ItR C.K J F xs) (wd : Wd F H E C.fb) (hE : ∀ q ∈ E, H q ≠ none) (er : EnvR C.K F H C.fb C.s0 σ e fp) (y : J.yld i H x H') (h : xs[i]? = some d) :
    ∃ f, Go F H E F H' (f ++ E) ∧ Wd F H' (f ++ E) C.fb ∧ EnvR C.K F H' C.fb C.s0 σ e fp ∧ Ro C.K F H' x d f ∧ (∀ p o, H p = some o → H' p = some o) := by
  rcases it.yld i H x H' d wd.ext y h with ⟨rfl, r⟩ | ⟨T, vs, ds, rfl, hT, rfl, rfl, r⟩
  · exact ⟨[], .refl F H' E, wd, er, .frz r, fun _ _ h => h⟩
  · refine ⟨[T], Go.new hT, wd.new hT hE, er.mono (.refl _) (fun p hp => upd_ne fun z => (wd.lent p hp).2.2 (by rw [z]; exact hT)) (fun p hp => upd_ne fun z => er.dom p hp (by rw [z]; exact hT)), .tup upd_same r.ros, fun p o h => ?_⟩
    rw [upd_ne (ne_of_none h hT)]; exact h
theorem cs_for {t : LT} {s : LI} {b : LB} {wi : TI} {g : TG} {tb : TS} (hs : CompI C s wi) (hg : CompT C t g) (hb : CompS C tb (evB C.phi C.wf b)) : CompS C (tFor wi g tb) (evS C.phi C.wf (.forr t s b)) := by
  intro σ H e F fp D er wd post
  simp only [evS] at post
  obtain ⟨bd, hbd⟩ : ∃ bd : Z.D → Env → Res Fl, bd = fun x e => (lift (tgt t x e) e).andThen fun e _ => evB C.phi C.wf b e := ⟨_, rfl⟩
  rw [← hbd] at post
  have hb1 : ∀ x e, bd x e = match tgt t x e with
    | some e => evB C.phi C.wf b e
    | none => .bad := fun x e => by rw [hbd]; simp only [lift_andThen]; cases tgt t x e <;> rfl
  refine bind0 hs er wd post fun xs e1 J F1 H1 f fp1 g1 w1 er1 r1 _ post1 => ?_
  obtain ⟨hf, it⟩ := r1
  subst hf
  have post1 := PostS.shift post1 g1 (fp1 := fp1) fun _ h => h
  let I : Nat → L2.St → Hp → Prop := fun i σ H => ∃ e F fp, EnvR C.K F H C.fb C.s0 σ e fp ∧ Wd F H fp C.fb ∧ ItR C.K J F xs ∧ PostS C F H fp (loopF bd (xs.drop i) e) D
  refine ⟨fun i m σ H => m = xs.length - i ∧ i ≤ xs.length ∧ I i σ H, ⟨xs.length, by simp, Nat.zero_le _, e1, F1, fp1, er1, w1, it, by simpa using post1⟩, ?_⟩
  rintro i m σ H ⟨rfl, hi, e, F, fp, er, wd, it, post⟩
  by_cases hlt : i < xs.length
  · refine .inr ⟨it.go i H wd.ext hlt, I (i + 1), fun σ' H' z => ⟨xs.length - (i + 1), by omega, rfl, hlt, z⟩, fun x H' y => ?_⟩
    rw [List.drop_eq_getElem_cons hlt] at post
    simp only [loopF] at post
    obtain ⟨f, g2, w2, er2, ro, _⟩ := it.step wd er.dom er y (show xs[i]? = some xs[i] by simp [hlt])
    cases ht : tgt t xs[i] e with
    | none => simp only [hb1, ht] at post; exact post.elim
    | some e2 =>
      simp only [hb1, ht] at post
      refine hg σ H' e F f fp e2 x xs[i] _ er2 w2 ro ht fun σ' fp' er' ns _ => ?_
      refine hb σ' H' e2 F fp' _ er' (w2.less ns) (PostS.step (PostS.shift post (g2.less ns.1) fun _ h => h) fun f e' p => ?_)
      cases f with
      | nx => exact fun F' H' σ' fp' g w er' => ⟨e', F', fp', er', w, it.mono g.ext, p.shift g fun _ h => h⟩
      | ct => exact fun F' H' σ' fp' g w er' => ⟨e', F', fp', er', w, it.mono g.ext, p.shift g fun _ h => h⟩
      | bk => exact fun F' H' σ' fp' g w er' => p.nx g w (.refl _) er'
      | rt d => exact p
  · have ei : i = xs.length := by omega
    subst ei
    simp only [List.drop_length, loopF] at post
    exact .inl ⟨it.stop H wd.ext, post.nx (.refl ..) wd (.refl _) er⟩

/-! ### comprehensions -/
def Cz.nox (C : Cz) : Cz := { C with W := fun _ _ _ _ => False }
theorem cc_no : Comp C RQ false tYes (evC C.phi .no) := by
  intro σ H e F fp Q er wd post
  simp only [evC] at post
  exact post true F H [] fp (.refl F H fp) wd er ⟨rfl, rfl⟩ fun z => by cases z
theorem Post.weakP {α β : Type} {R : RR α β} {p : Bool} {F H : Hp} {fp : List Addr} {e : Env} {σ : L2.St} {r : Res α} {Q : β → Hp → Prop} (post : Post C R false F H fp e σ r Q) : Post C R p F H fp e σ r Q := by
  cases r with
  | bad => exact post
  | xc c d e' => exact post
  | ok a e' => exact fun v F' H' f fp' g w er ra _ => post v F' H' f fp' g w er ra fun z => by cases z
theorem cc_so {a : LE} {t : TT} (h : CT1 C a t) : Comp C RQ false t (evC C.phi (.so a)) := by
  intro σ H e F fp Q er wd post
  refine h σ H e F fp Q er wd (Post.weakP ?_)
  have : evC C.phi (.so a) e = evT C.phi a e := by
    simp only [evC, evT]
    all_goals congr 1
  rw [← this]; exact post
theorem clrS_no : ∀ {e e' : Env} {i : Nat}, clrS e i = some e' → e'[i]? = some Slot.no ∧ ∀ j, j ≠ i → e'[j]? = e[j]?
  | [], _, _, h => by simp [clrS] at h
  | .no :: r, _, 0, h => by
    simp only [clrS, Option.some.injEq] at h; subst h
    exact ⟨rfl, fun _ _ => rfl⟩
  | .fr d :: r, _, 0, h => by
    simp only [clrS, Option.some.injEq] at h; subst h
    refine ⟨rfl, fun j hj => ?_⟩
    cases j with
    | zero => exact absurd rfl hj
    | succ j => rfl
  | .pn d :: r, _, 0, h => by simp [clrS] at h
  | .bo d :: r, _, 0, h => by simp [clrS] at h
  | x :: r, e', n + 1, h => by
    have h : (clrS r n).map (x :: ·) = some e' := by simpa [clrS] using h
    simp only [Option.map_eq_some_iff] at h
    obtain ⟨e1, h1, rfl⟩ := h
    obtain ⟨a, b⟩ := clrS_no h1
    refine ⟨by simpa using a, fun j hj => ?_⟩
    cases j with
    | zero => rfl
    | succ j => simpa using b j fun z => hj (by rw [z])
theorem clrA_no : ∀ {vs : List Nat} {e e' : Env}, clrA e vs = some e' → ∀ i ∈ vs, e'[i]? = some Slot.no
  | [], _, _, _, i, hi => by cases hi
  | v :: vs, e, e', h, i, hi => by
    simp only [clrA, Option.bind_eq_some_iff] at h
    obtain ⟨e1, h1, h2⟩ := h
    obtain ⟨a, b⟩ := clrS_no h2
    by_cases e0 : i = v
    · rw [e0]; exact a
    · rw [b i e0]
      exact clrA_no h1 i ((List.mem_cons.mp hi).resolve_left e0)
theorem EnvR.re {F H : Hp} {fb : List Addr} {K : PySem.W.Frag} : ∀ {s0 s s' : L2.St} {en : Env} {fp : List Addr}, EnvR K F H fb s0 s en fp → s'.length = s.length → (∀ i : Nat, en[i]? ≠ some Slot.no → s'[i]? = s[i]?) → EnvR K F H fb s0 s' en fp
  | _, _, [], _, _, .nil, _, _ => .nil
  | _, _, _ :: _, _, _, .nil, h, _ => by simp at h
  | _, _, [], _, _, .no r, h, _ => by simp at h
  | _, _, x :: s', _, _, .no r, h, k => .no (EnvR.re r (by simpa using h) fun i hi => by simpa using k (i + 1) (by simpa using hi))
  | _, _, [], _, _, .fr a r, h, _ => by simp at h
  | _, _, x :: s', _, _, .fr (v := v) a r, h, k => by
    have : x = some v := by simpa using k 0 (by simp)
    subst this
    exact .fr a (EnvR.re r (by simpa using h) fun i hi => by simpa using k (i + 1) (by simpa using hi))
  | _, _, [], _, _, .pn a r, h, _ => by simp at h
  | _, _, x :: s', _, _, .pn (v := v) a r, h, k => by
    have : x = some v := by simpa using k 0 (by simp)
    subst this
    exact .pn a (EnvR.re r (by simpa using h) fun i hi => by simpa using k (i + 1) (by simpa using hi))
  | _, _, [], _, _, .bo a z r, h, _ => by simp at h
  | _, _, x :: s', _, _, .bo (v := v) a z r, h, k => by
    have : x = some v := by simpa using k 0 (by simp)
    subst this
    exact .bo a z (EnvR.re r (by simpa using h) fun i hi => by simpa using k (i + 1) (by simpa using hi))
theorem EnvR.clrs {F H : Hp} {fb : List Addr} {K : PySem.W.Frag} : ∀ {vs : List Nat} {s0 s : L2.St} {en en' : Env} {fp : List Addr}, EnvR K F H fb s0 s en fp → clrA en vs = some en' →
    ∃ fp', EnvR K F H fb s0 (wipe s vs) en' fp' ∧ NS fp' fp
  | [], _, _, _, _, _, er, h => by
    simp only [clrA, Option.some.injEq] at h; subst h
    exact ⟨_, er, .refl _⟩
  | v :: vs, _, _, _, _, _, er, h => by
    simp only [clrA, Option.bind_eq_some_iff] at h
    obtain ⟨e1, h1, h2⟩ := h
    obtain ⟨fp1, a, n⟩ := EnvR.clrs er h1
    obtain ⟨fp2, a2, _, n2, _⟩ := a.clr none h2
    exact ⟨fp2, a2, n2.trans n⟩
theorem EnvR.unwipe {F H : Hp} {fb : List Addr} {K : PySem.W.Frag} {vs : List Nat} {s0 s : L2.St} {en : Env} {fp : List Addr} (er : EnvR K F H fb s0 (wipe s vs) en fp) (h : ∀ i ∈ vs, en[i]? = some Slot.no) : EnvR K F H fb s0 s en fp :=
  er.re (wipe_length s vs).symm fun i hi => (wipe_out fun z => hi (h i z)).symm
theorem wipe_mem {σ : L2.St} : ∀ {vs : List Nat} {i : Nat}, i ∈ vs → i < σ.length → (wipe σ vs)[i]? = some none
  | [], _, h, _ => by cases h
  | v :: vs, i, h, hl => by
    unfold wipe
    by_cases e : v = i
    · subst e; rw [List.getElem?_set_self (by rw [wipe_length]; exact hl)]
    · rw [List.getElem?_set_ne e]
      exact wipe_mem ((List.mem_cons.mp h).resolve_left fun z => e z.symm) hl
theorem wipe_idem {σ : L2.St} {vs : List Nat} : wipe (wipe σ vs) vs = wipe σ vs := by
  apply List.ext_getElem?
  intro i
  by_cases hi : i ∈ vs
  · by_cases hl : i < σ.length
    · rw [wipe_mem hi (by rw [wipe_length]; exact hl), wipe_mem hi hl]
    · rw [List.getElem?_eq_none (by rw [wipe_length, wipe_length]; omega), List.getElem?_eq_none (by rw [wipe_length]; omega)]
  · rw [wipe_out hi]
/-- the same evaluation where no exception flies -/
theorem comp_lc {own : List Nat} {s : LI} {t : LT} {cd : LO} {a : LE} {wi : TI} {g : TG} {tt : TT} {te : TE} (hs : CompI C s wi) (hg : CompT C.nox t g) (hc : Comp C.nox RQ false tt (evC C.phi cd)) (ha : CE1 C.nox a te) (hB : isB a = false) (hsl : ∀ i ∈ slT t, i ∈ own) :
    CE1 C (.lc own s t cd a) (tLc wi g tt te own) := by
  intro σ H0 e0 F0 fp0 Q er wd post
  simp only [evE] at post
  obtain ⟨bd, hbd⟩ : ∃ bd : Z.D → Env → Res (Option Z.D), bd = fun x e => noX ((lift (tgt t x e) e).andThen fun e _ => (evC C.phi cd e).andThen fun b e => if b then (evE C.phi a e).andThen fun y e => (lift (clrA e own) e).andThen fun e _ => .ok (some y) e
        else (lift (clrA e own) e).andThen fun e _ => .ok none e) := ⟨_, rfl⟩
  rw [← hbd] at post
  refine hs.bind er wd post fun xs e1 J F1 H1 f fp1 g1 w1 er1 r1 _ post1 => ?_
  obtain ⟨hf, it⟩ := r1
  subst hf
  by_cases hz : xs.length ≤ sizeL
  · simp only [hz, if_true, lift_andThen] at post1
    cases hcl : clrA e1 own with
    | none => simp only [hcl] at post1; exact post1.elim
    | some e2 =>
      simp only [hcl] at post1
      obtain ⟨fp2, er2, ns2⟩ := er1.clrs hcl
      intro L hL
      let P : List Z.D → Nat → Env → Prop := fun ds i e => Post C (RV C.K false) false F0 H0 fp0 e0 σ ((loopC bd (xs.drop i) e).andThen fun ys e => .ok (.lst true (ds ++ ys)) e) Q
      let I : Nat → Hp → Prop := fun i H => ∃ e F fp facc acc ds, EnvR C.K F H C.fb C.s0 (wipe σ own) e fp ∧ (∀ i ∈ own, e[i]? = some Slot.no) ∧ Go F0 H0 fp0 F H ((L :: facc) ++ fp) ∧ Wd F H ((L :: facc) ++ fp) C.fb ∧
        H L = some (.lst acc) ∧ Ros C.K F H acc ds facc ∧ ds.length ≤ i ∧ ItR C.K J F xs ∧ P ds i e
      have g1 : Go F0 H0 fp0 F1 H1 fp1 := g1
      have w1 : Wd F1 H1 fp1 C.fb := w1
      have g2 := g1.less ns2.1
      have w2 := w1.less ns2
      refine ⟨fun i m H => m = xs.length - i ∧ i ≤ xs.length ∧ I i H, ⟨xs.length, by simp, Nat.zero_le _, e2, F1, fp2, [], [], [], ?_, clrA_no hcl, g2.trans (Go.new hL), w2.new hL er2.dom, upd_same, .nil, Nat.zero_le _, it, ?_⟩, ?_⟩
      · exact er2.mono (.refl _) (fun p hp => upd_ne fun z => (w2.lent p hp).2.2 (by rw [z]; exact hL)) fun p hp => upd_ne fun z => er2.dom p hp (by rw [z]; exact hL)
      · show Post C _ _ _ _ _ _ _ _ _
        rw [List.drop_zero]
        exact post1
      rintro i m H ⟨rfl, hi, e, F, fp, facc, acc, ds, er, hno, gg, ww, hacc, ros, hdl, it, post⟩
      have hE : ∀ q ∈ (L :: facc) ++ fp, H q ≠ none := fun q hq => by
        rcases List.mem_append.mp hq with z | z
        · rcases List.mem_cons.mp z with z | z
          · rw [z, hacc]; exact fun z => nomatch z
          · exact ros.dom q z
        · exact er.dom q z
      by_cases hlt : i < xs.length
      · refine .inr ⟨it.go i H ww.ext hlt, I (i + 1), fun H' z => ⟨xs.length - (i + 1), by omega, rfl, hlt, z⟩, fun x H' y => ?_⟩
        have post : Post C (RV C.K false) false F0 H0 fp0 e0 σ ((loopC bd (xs.drop i) e).andThen fun ys e => .ok (.lst true (ds ++ ys)) e) Q := post
        rw [List.drop_eq_getElem_cons hlt] at post
        simp only [loopC, Res_assoc] at post
        obtain ⟨f, g3, w3, er3, ro, keep⟩ := it.step ww hE er y (show xs[i]? = some xs[i] by simp [hlt])
        have hb1 : bd xs[i] e = noX (match tgt t xs[i] e with
          | some e => (evC C.phi cd e).andThen fun b e => if b then (evE C.phi a e).andThen fun y e => (lift (clrA e own) e).andThen fun e _ => .ok (some y) e
              else (lift (clrA e own) e).andThen fun e _ => .ok none e
          | none => .bad) := by
          rw [hbd]
          simp only [lift_andThen]
          congr 1
          cases tgt t xs[i] e <;> rfl
        cases ht : tgt t xs[i] e with
        | none => rw [hb1, ht] at post; exact post.elim
        | some e3 =>
          rw [ht] at hb1
          simp only [] at hb1
          have hns : NS ((L :: facc) ++ (f ++ fp)) (f ++ ((L :: facc) ++ fp)) := .mid _ _ _
          have g3' := (gg.trans g3).less hns.1
          have w3' := w3.less hns
          have hacc' : H' L = some (.lst acc) := keep _ _ hacc
          have hT : ∀ q ∈ L :: facc, H' q ≠ none := fun q hq => by
            cases hh : H q with
            | none => exact absurd hh (hE q (List.mem_append_left _ hq))
            | some o => rw [keep q o hh]; exact fun z => nomatch z
          have ros' : Ros C.K F H' acc ds facc := ros.mono (.refl _) fun p hp => by
            cases hh : H p with
            | none => exact absurd hh (hE p (List.mem_append_left _ (List.mem_cons_of_mem _ hp)))
            | some o => exact keep p o hh
          refine hg (wipe σ own) H' e F f fp e3 x xs[i] _ er3 (w3'.less (.dropL _ _)) ro ht fun σ' fp' er' ns hw => ⟨?_, ?_⟩
          · rw [hw own hsl, wipe_idem]
          have hw : wipe σ' own = wipe σ own := by rw [hw own hsl, wipe_idem]
          have hns' : NS ((L :: facc) ++ fp') ((L :: facc) ++ (f ++ fp)) := ns.left _
          have g4 := g3'.less hns'.1
          have w4 := w3'.less hns'
          refine hc σ' H' e3 F fp' _ er' (w4.less (.dropL _ _)) ?_
          show Post C.nox _ _ _ _ _ _ _ (evC C.phi cd e3) _
          cases hv : evC C.phi cd e3 with
          | bad => rw [hb1, hv] at post; exact post.elim
          | xc c d e' => rw [hb1, hv] at post; exact post.elim
          | ok b e4 =>
            rw [hv] at hb1
            simp only [Res.andThen] at hb1
            intro b' F4 H4 f4 fp4 g5 w5 er4 r4 _
            obtain ⟨rfl, rfl⟩ := (show f4 = [] ∧ b' = b from r4)
            obtain ⟨g6, w6, st6⟩ := Go.frame g5 w4 hT w5
            have hT4 : ∀ q ∈ L :: facc, H4 q ≠ none := fun q hq => by rw [st6 q hq]; exact hT q hq
            have ros4 : Ros C.K F4 H4 acc ds facc := ros'.mono g5.ext fun p hp => st6 p (List.mem_cons_of_mem _ hp)
            have hacc4 : H4 L = some (.lst acc) := by rw [st6 L (List.mem_cons_self ..)]; exact hacc'
            have er4 : EnvR C.K F4 H4 C.fb C.s0 σ' e4 fp4 := er4
            cases b' with
            | false =>
              simp only [Bool.false_eq_true, if_false] at hb1 ⊢
              cases hcl2 : clrA e4 own with
              | none => rw [hb1, hcl2] at post; exact post.elim
              | some e5 =>
                rw [hb1, hcl2] at post
                obtain ⟨fp5, er5, ns5⟩ := er4.clrs hcl2
                rw [hw] at er5
                have n5 : NS ((L :: facc) ++ fp5) ((L :: facc) ++ ([] ++ fp4)) := ns5.left _
                refine ⟨e5, F4, fp5, facc, acc, ds, er5, clrA_no hcl2, (g4.trans g6).less n5.1, w6.less n5, hacc4, ros4, by omega, it.mono g5.ext, ?_⟩
                show Post C _ _ _ _ _ _ _ _ _
                simpa [lift, noX, Res.andThen, Res_assoc] using post
            | true =>
              simp only [if_true] at hb1 ⊢
              refine ha σ' H4 e4 F4 fp4 _ er4 (w6.less ((NS.dropL _ _).trans (.refl _))) ?_
              show Post C.nox _ _ _ _ _ _ _ (evE C.phi a e4) _
              cases hv2 : evE C.phi a e4 with
              | bad => rw [hb1, hv2] at post; exact post.elim
              | xc c d e' => rw [hb1, hv2] at post; exact post.elim
              | ok y e5 =>
                rw [hv2] at hb1
                simp only [Res.andThen] at hb1
                intro v F5 H5 f5 fp5 g7 w7 er5 r5 _
                rw [hB] at r5
                have r5 : Ro C.K F5 H5 v y f5 := r5
                obtain ⟨g8, w8, st8⟩ := Go.frame g7 w6 hT4 w7
                have ros5 : Ros C.K F5 H5 acc ds facc := ros4.mono g7.ext fun p hp => st8 p (List.mem_cons_of_mem _ hp)
                have hacc5 : H5 L = some (.lst acc) := by rw [st8 L (List.mem_cons_self ..)]; exact hacc4
                refine ⟨acc, hacc5, ?_, ?_⟩
                · rw [ros5.len, ← sizeL_eq]; omega
                cases hcl2 : clrA e5 own with
                | none => rw [hb1, hcl2] at post; exact post.elim
                | some e6 =>
                  rw [hb1, hcl2] at post
                  have er5 : EnvR C.K F5 H5 C.fb C.s0 σ' e5 fp5 := er5
                  obtain ⟨fp6, er6, ns6⟩ := er5.clrs hcl2
                  rw [hw] at er6
                  have n6 : NS ((L :: (facc ++ (f5 ++ []))) ++ fp6) ((L :: facc) ++ (f5 ++ fp5)) := by
                    have : (L :: (facc ++ (f5 ++ []))) ++ fp6 = (L :: facc) ++ (f5 ++ fp6) := by simp
                    rw [this]
                    exact (ns6.left f5).left _
                  have nd := w8.nd
                  rw [List.cons_append, List.nodup_cons] at nd
                  have nL : ∀ p ∈ facc ++ (f5 ++ fp5), p ≠ L := fun p hp z => nd.1 (by rw [← z]; exact hp)
                  have hin : L ∈ (L :: facc) ++ (f5 ++ fp5) := by simp
                  have w9 := w8.write (o := .lst (acc ++ [v])) hin
                  have kp : ∀ p ∈ facc ++ (f5 ++ fp5), upd H5 L (.lst (acc ++ [v])) p = H5 p := fun p hp => upd_ne (nL p hp)
                  refine ⟨e6, F5, fp6, facc ++ (f5 ++ []), acc ++ [v], ds ++ [y], ?_, clrA_no hcl2, ((g4.trans (g6.trans g8)).trans (Go.write hin)).less n6.1, w9.less n6, upd_same, ?_, by simp; omega, (it.mono g5.ext).mono g7.ext, ?_⟩
                  · refine er6.mono (.refl _) (fun p hp => upd_ne fun z => (w8.lent p hp).1 (by rw [z]; exact hin)) fun p hp => kp p ?_
                    have := n6.1 p (List.mem_append_right _ hp)
                    rcases List.mem_cons.mp (show p ∈ L :: (facc ++ (f5 ++ fp5)) from this) with z | z
                    · exfalso
                      have : p ∈ fp5 := ns6.1 p hp
                      exact nL p (by simp [this]) z
                    · exact z
                  · refine (ros5.mono (.refl _) fun p hp => kp p (List.mem_append_left _ hp)).app (.cons (r5.mono (.refl _) fun p hp => kp p (by simp [hp])) .nil)
                  · show Post C _ _ _ _ _ _ _ _ _
                    simpa [lift, noX, Res.andThen, Res_assoc] using post
      · have ei : i = xs.length := by omega
        subst ei
        have post : Post C (RV C.K false) false F0 H0 fp0 e0 σ ((loopC bd (xs.drop xs.length) e).andThen fun ys e => .ok (.lst true (ds ++ ys)) e) Q := post
        simp only [List.drop_length, loopC, Res.andThen, List.append_nil] at post
        refine .inl ⟨it.stop H ww.ext, ?_⟩
        exact post.ret gg ww (.refl _) (er.unwipe hno) (.lst hacc ros) fun z => by cases z
  · simp only [hz, if_false] at post1; exact post1.elim
end
end Z

set_option Elab.async false
set_option linter.all false
set_option maxRecDepth 100000
set_option maxHeartbeats 4000000
/-! ZA: calls with keywords. -/
namespace Z
open PySem L2 PyProof.Rows
section
variable {X : Cx} {hot : Bool} {k : Nat} {f : Addr} {fd : FuncData} {ps ks : List Str} {sp : Sp} {x : Str} {p pos : Pos} {e : Expr} {es : List Expr} {t tk : TA} {W : WX} {kws : List Keyword} {g : List Value → List Value → List Value} {gV : List V → List V → List V}
theorem run_gk {pins : List (Addr × Obj)} {σ : L2.St} {H : Hp} {s : Shared} {Q : VK} {us ws : List Value} {vs zs : List V} (F : GFn X.prog X.w X.K X.mg X.base hot k f fd ps sp) (hr : RoomZ hot (k + 1) X.A) (hgd : X.A.guards = some []) (hb : KBinds X.K fd ps ks g gV) (tk : Takes X W)
    (I : Inv X pins σ H s) (r : Vals vs us) (rz : Vals zs ws) (h : sp (gV vs zs) H Q fun cls d H' => W cls d σ H') : wpAny (model X.prog X.w) X.A (call (.ref f) us (ks.zip ws)) (EP X pins σ Q) X.xe s := by
  have r2 := hb.rel r rz
  have hl : (g us ws).length = ps.length := by rw [← r2.length]; exact F.len _ _ _ _ h
  refine wpAny_call (codeAny_mono (run_g F hr hgd (hb.to s us ws I.kIn hl) tk I r2 h) fun r s' hq => ?_)
  cases r with
  | error e => exact hq
  | ok fl => cases fl <;> first | exact hq | exact hq.elim
theorem pe_clk (F : GFn X.prog X.w X.K X.mg X.base hot k f fd ps sp) (hr : RoomZ hot (k + 1) X.A) (hgd : X.A.guards = some []) (hg : Gl X x) (hm : X.mg x = some (.ref f)) (hk : PySem.W.keepIn X.K (.ref f) = true) (hb : KBinds X.K fd ps ks g gV) (tkk : Takes X W)
    (ha : PA X (e :: es) t) (hkw : PK X kws tk) (hall : (backToKw pos (keywordEach kws X.env)).all (·.1.isSome) = true) (hks : (backToKw pos (keywordEach kws X.env)).filterMap (·.1) = ks)
    (hdb : (x == ("__debug__" : Str)) = false) (he : starEach (e :: es) X.env = (false, eval e X.env) :: starEach es X.env) (hpl : ((backTo pos (starEach (e :: es) X.env)).any (·.1) || (backToKw pos (keywordEach kws X.env)).any (·.1.isNone)) = false) :
    PE X (.Call (.Name x p) (e :: es) kws pos) (tClK sp W gV t tk) := by
  refine ⟨fun pins s σ H Q I h => ?_⟩
  refine wpAny_Call_Name_kw (ld_glob I hg hm ?_ hdb)
  refine PySem.W.callWith_KW (h₀ := X.base) I.ok.mod.kin hk hall (thn (ha.run pos pins s σ H _ I h) fun us s1 ⟨vs, H1, I1, r, q⟩ => ?_) hpl he
  refine thn (hkw.run pos pins s1 σ H1 _ I1 q) fun ws s2 ⟨zs, H2, I2, rz, q2⟩ => ⟨I2.kIn, ?_⟩
  rw [hks]
  exact run_gk F hr hgd hb tkk I2 r rz q2
theorem pe_clk0 (F : GFn X.prog X.w X.K X.mg X.base hot k f fd ps sp) (hr : RoomZ hot (k + 1) X.A) (hgd : X.A.guards = some []) (hg : Gl X x) (hm : X.mg x = some (.ref f)) (hk : PySem.W.keepIn X.K (.ref f) = true) (hb : KBinds X.K fd ps ks g gV) (tkk : Takes X W)
    (hkw : PK X kws tk) (hall : (backToKw pos (keywordEach kws X.env)).all (·.1.isSome) = true) (hks : (backToKw pos (keywordEach kws X.env)).filterMap (·.1) = ks)
    (hdb : (x == ("__debug__" : Str)) = false) (hpl : ((backTo pos (starEach [] X.env)).any (·.1) || (backToKw pos (keywordEach kws X.env)).any (·.1.isNone)) = false) :
    PE X (.Call (.Name x p) [] kws pos) (tClK sp W gV tNil tk) := by
  refine ⟨fun pins s σ H Q I h => ?_⟩
  refine wpAny_Call_Name_kw (ld_glob I hg hm ?_ hdb)
  refine PySem.W.callWith_KW0 (h₀ := X.base) I.ok.mod.kin hk hall ?_ hpl
  refine thn (hkw.run pos pins s σ H _ I h) fun ws s2 ⟨zs, H2, I2, rz, q2⟩ => ⟨I2.kIn, ?_⟩
  rw [hks]
  exact run_gk (us := []) (vs := []) F hr hgd hb tkk I2 .nil rz q2
end
section
variable {C : Cz}
/-- a call that is handed nothing owned -/
theorem call_back {F1 H1 : Hp} {rest fb : List Addr} (w : Wd F1 H1 rest fb) (dm : ∀ q ∈ rest, H1 q ≠ none) : Wd F1 H1 [] (fb ++ rest) ∧ ∀ F2 H2 E2, Go F1 H1 [] F2 H2 E2 → Wd F2 H2 E2 (fb ++ rest) →
    Go F1 H1 rest F2 H2 (rest ++ E2) ∧ Wd F2 H2 (rest ++ E2) fb ∧ (∀ q ∈ rest, H2 q = H1 q) ∧ (∀ q ∈ fb, H2 q = H1 q) := by
  refine ⟨⟨w.ext, List.nodup_nil, (fun _ z => by cases z), fun q hq => ⟨List.not_mem_nil, ?_⟩⟩, fun F2 H2 E2 g2 w2 => ?_⟩
  · rcases List.mem_append.mp hq with z | z
    · exact (w.lent q z).2
    · exact ⟨w.un q z, dm q z⟩
  · have w2' : Wd F2 H2 E2 fb := ⟨w2.ext, w2.nd, w2.un, fun q hq => w2.lent q (List.mem_append_left _ hq)⟩
    have keepR : ∀ q ∈ rest, H2 q = H1 q := fun q hq => by
      cases e : H1 q with
      | none => exact absurd e (dm q hq)
      | some o => exact g2.keep q o e List.not_mem_nil
    obtain ⟨a, b, c⟩ := Go.frame (T := rest) g2 (by rw [List.append_nil]; exact w) dm w2'
    rw [List.append_nil] at a
    refine ⟨a, b, keepR, fun q hq => ?_⟩
    cases e : H1 q with
    | none => exact absurd e (w.lent q hq).2.2
    | some o => exact g2.keep q o e List.not_mem_nil
theorem pick_args {K : PySem.W.Frag} {F H : Hp} {fb : List Addr} {vs : List V} {ds : List D} (r : Rfs K F vs ds) : ∀ {pm : List Nat}, pm.all (fun j => decide (j < ds.length)) = true → ArgsR K F H fb (pm.map fun _ => .val) (pick .non pm vs) (pick .non pm ds) []
  | [], _ => .nil
  | j :: pm, h => by
    simp only [List.all_cons, Bool.and_eq_true, decide_eq_true_eq] at h
    obtain ⟨y, hy, ry⟩ := r.get (show ds[j]? = some ds[j] by simp [h.1])
    have e1 : vs.getD j V.non = y := by simp [List.getD, hy]
    have e2 : ds.getD j D.non = ds[j] := by simp [List.getD, h.1]
    show ArgsR K F H fb (.val :: _) (vs.getD j .non :: _) (ds.getD j .non :: _) ([] ++ [])
    rw [e1, e2]
    exact .val (.frz ry) (pick_args r h.2)
theorem out_vals {K : PySem.W.Frag} {F H : Hp} : ∀ {pm : List Nat} {vs : List V} {os : List (Option D)} {fo : List Addr}, OutR K F H (pm.map fun _ => PM.val) vs os fo → fo = []
  | [], _, _, _, h => by cases h; rfl
  | j :: pm, _, _, _, h => by
    simp only [List.map_cons] at h
    cases h with
    | val r => exact out_vals r
/-- the values as the parameters want them -/
def gK (α : Type) (d : α) (n m : Nat) (pm : List Nat) (us ws : List α) : List α := if us.length = n ∧ ws.length = m then pick d pm (us ++ ws) else []
theorem comp_callk {f : Nat} {es ks : LL} {pm : List Nat} {t tk : TA} (h1 : Comp C (RL2 C.K) (pureL es) t (evL C.phi es)) (h2 : Comp C (RL2 C.K) (pureL ks) tk (evL C.phi ks)) :
    CE1 C (.callk f es pm ks) (tClK (spF C.K C.phi f (pm.map fun _ => .val)) C.W (gK V .non (lenL es) (lenL ks) pm) t tk) := by
  intro σ H e F fp Q er wd post
  simp only [evE] at post
  refine h1.bind er wd post fun xs e1 vs F1 H1 fv fp1 g1 w1 er1 r1 pu1 post1 => ?_
  refine h2 σ H1 e1 F1 fp1 _ er1 (w1.less (.dropL _ _)) ?_
  have r1 : Ros C.K F1 H1 vs xs fv := r1
  cases hv : evL C.phi ks e1 with
  | bad => rw [hv] at post1; exact post1
  | xc c d e' =>
    rw [hv] at post1
    intro F' H' fp' cls dx g' w' er' x'
    obtain ⟨g2, w2, _⟩ := g'.frame w1 r1.dom w'
    exact post1 F' H' fp' cls dx ((g1.trans g2).less fun q hq => List.mem_append_right _ hq) w' er' x'
  | ok ys e2 =>
    rw [hv] at post1
    intro zs F2 H2 fz fp2 g2 w2 er2 r2 pu2
    have r2 : Ros C.K F2 H2 zs ys fz := r2
    simp only [Res.andThen] at post1
    split at post1
    case isFalse => exact post1.elim
    rename_i hc
    simp only [Bool.and_eq_true] at hc
    obtain ⟨⟨⟨⟨c1, c2⟩, c3⟩, c4⟩, c5⟩ := hc
    simp only [decide_eq_true_eq] at c4 c5
    have hgk : gK V .non (lenL es) (lenL ks) pm vs zs = pick .non pm (vs ++ zs) := if_pos ⟨by rw [r1.len]; exact c4, by rw [r2.len]; exact c5⟩
    obtain ⟨rf1, rfl⟩ := r1.frozen c1
    obtain ⟨rf2, rfl⟩ := r2.frozen c2
    have g12 : Go F H fp F2 H2 fp2 := Go.trans (E1 := fp1) g1 g2
    have w2 : Wd F2 H2 fp2 C.fb := w2
    obtain ⟨wc, back⟩ := call_back w2 er2.dom
    show spF _ _ _ _ (gK V .non (lenL es) (lenL ks) pm vs zs) _ _ _
    rw [hgk]
    refine ⟨F2, pick .non pm (xs ++ ys), [], C.fb ++ fp2, wc, pick_args ((rf1.mono g2.ext).app rf2) c3, ?_⟩
    cases hf : C.phi f (pm.map fun _ => .val) (pick .non pm (xs ++ ys)) with
    | bad => simp only [hf] at post1; exact post1
    | ok d os =>
      simp only [hf] at post1
      intro v F3 H3 fr fo g3 w3 ro o3
      have e0 := out_vals o3
      subst e0
      rw [List.append_nil] at g3 w3
      obtain ⟨gg, ww, kR, kB⟩ := back F3 H3 fr g3 w3
      refine Post.ret (C := C) post1 (g12.trans gg) ww (NS.swap _ _) (er2.mono g3.ext kB kR) ro fun z => ?_
      simp only [pureE, Bool.and_eq_true] at z
      obtain ⟨s1, q1⟩ := pu1 z.1
      obtain ⟨s2, q2⟩ := pu2 z.2
      exact ⟨fun q o hq => g3.keep q o (s2 q o (s1 q o hq)) List.not_mem_nil, q2.trans q1⟩
    | xc c d os =>
      simp only [hf] at post1
      intro F3 H3 fo cls dx g3 w3 o3 hcls hxk hd
      have e0 := out_vals o3
      subst e0
      obtain ⟨gg, ww, kR, kB⟩ := back F3 H3 [] g3 w3
      rw [List.append_nil] at gg ww
      exact post1 F3 H3 fp2 cls dx (g12.trans gg) ww (er2.mono g3.ext kB kR) ⟨hcls, hxk, hd⟩
end
theorem pick_vals {d : V} {e : Value} (hd : RelV d e) {l : List V} {m : List Value} (h : Vals l m) : ∀ pm : List Nat, Vals (pick d pm l) (pick e pm m)
  | [] => .nil
  | j :: pm => by
    refine .cons ?_ (pick_vals hd h pm)
    cases hj : l[j]? with
    | none =>
      have hj' : m[j]? = none := by
        rw [List.getElem?_eq_none_iff] at hj ⊢
        rw [← h.length]; exact hj
      simp only [List.getD, hj, hj', Option.getD]
      exact hd
    | some v =>
      obtain ⟨u, hu, r⟩ := h.get hj
      simp only [List.getD, hj, hu, Option.getD]
      exact r
/-- such a call binds, where the def's parameters take it -/
theorem kb_of {K : PySem.W.Frag} {fd : FuncData} {ps ks : List Str} {n : Nat} {pm : List Nat} (hp : ps ≠ []) (h : ∀ us ws : List Value, us.length = n → ws.length = ks.length → bindArgs fd ⟨us, ks.zip ws⟩ = pure (ps.zip (pick .none pm (us ++ ws)))) :
    KBinds K fd ps ks (gK Value .none n ks.length pm) (gK V .non n ks.length pm) where
  to := fun s us ws _ hl => by
    unfold gK at hl ⊢
    split at hl
    · rename_i hc
      rw [if_pos hc]
      exact .of_eq (h us ws hc.1 hc.2)
    · exact absurd (List.length_eq_zero_iff.mp (show ps.length = 0 from hl.symm)) hp
  rel := fun {vs us zs ws} r rz => by
    unfold gK
    rw [r.length, rz.length]
    split
    · exact pick_vals (show RelV V.non Value.none from rfl) (r.append rz) pm
    · exact .nil
end Z

set_option Elab.async false
set_option linter.all false
set_option maxRecDepth 100000
set_option maxHeartbeats 4000000
/-! ZX4: exceptions compute. -/
namespace Z
open PySem L2 PyProof.Rows

section
variable {C : Cz}
theorem Ro.exc_inv {K : PySem.W.Frag} {F H : Hp} {v : V} {c : Nat} {d : D} {f : List Addr} (h : Ro K F H v (.exc c d) f) : ∃ a dx w, v = .ref a ∧ F a = some (exv a (caK K c) dx) ∧ F dx = some (.xd [(sValue, w)]) ∧ XcK K c ∧ Rf K F w d := by
  cases h with
  | frz h => cases h with
    | exc h1 h2 h3 h4 => exact ⟨_, _, _, rfl, h1, h2, h3, h4⟩
theorem comp_xv {a : LE} {ta : TE} (ha : CE1 C a ta) : CE1 C (.xv a) (tXv C.K ta) := by
  intro σ H e F fp Q er wd post
  simp only [evE] at post
  refine ha.bind er wd post fun x e1 v F1 H1 f fp1 g1 w1 er1 r1 pu1 post1 => ?_
  cases x with
  | exc c d =>
    obtain ⟨f', ro⟩ := r1.ro
    obtain ⟨p, dx, w, rfl, h1, h2, h3, h4⟩ := ro.exc_inv
    have post1 : Post C (RV C.K (isB (.xv a))) (pureE (.xv a)) F H fp e σ (.ok d e1) Q := post1
    exact ⟨p, _, dx, w, rfl, h3.f, w1.ext _ _ h1, w1.ext _ _ h2, post1.retS g1 w1 (.dropL _ _) er1 h4 fun z => pu1 (by simpa [pureE] using z)⟩
  | _ => exact post1.elim
/-- the class k as a value -/
def clW (K : PySem.W.Frag) (k : Nat) : V := if k = 100 then .ty "ValueError" else .ref (caK K k)
theorem clv_clW {K : PySem.W.Frag} {k : Nat} : clv (clW K k) = clV K k := by
  unfold clW clV
  split <;> rfl
theorem comp_isx {a : LE} {k : Nat} {ta : TE} (hk : k = 100 ∨ (k < 9 ∧ PySem.W.nsIn C.K mainGlobals (clsNm k) = some (some (.ref (caK C.K k))))) (ha : CE1 C a ta) : CE1 C (.isx a k) (tCB (rIsX C.K) (tCons ta (tCons (tC (clW C.K k)) tNil))) := by
  intro σ H e F fp Q er wd post
  simp only [evE] at post
  show ta σ H fun x H1 => rIsX C.K [x, clW C.K k] H1 Q
  refine ha.bind er wd post fun x e1 v F1 H1 f fp1 g1 w1 er1 r1 pu1 post1 => ?_
  cases x with
  | exc c d =>
    obtain ⟨f', ro⟩ := r1.ro
    obtain ⟨p, dx, w, rfl, h1, h2, h3, h4⟩ := ro.exc_inv
    have post1 : Post C (RV C.K (isB (.isx a k))) (pureE (.isx a k)) F H fp e σ (.ok (.bl (subX c k)) e1) Q := post1
    refine ⟨p, _, dx, _, _, _, rfl, ?_, h3.f, w1.ext _ _ h1, w1.ext _ _ h2, by rw [clv_clW]; exact (h3.k k hk).1, post1.retS g1 w1 (.dropL _ _) er1 (.bl _) fun z => pu1 (by simpa [pureE] using z)⟩
    unfold clW
    split
    · exact .inr ⟨_, rfl⟩
    · exact .inl ⟨_, rfl⟩
  | _ => exact post1.elim
theorem fmtV_of {K : PySem.W.Frag} {F H : Hp} {v : V} {d : D} (sm : Same F H) (r : Rf K F v d) (h : fmtX d = true) : FmtV K H v := by
  unfold fmtX at h
  cases d with
  | str s =>
    simp only [Bool.and_eq_true, decide_eq_true_eq] at h
    obtain rfl := r.str_inv
    have e : (⟨s.toArray⟩ : Str).length = s.length := str_len s
    refine .inl ⟨⟨s.toArray⟩, rfl, by omega, ?_⟩
    have h1 := h.1
    unfold okS at h1
    simp only [List.all_eq_true, decide_eq_true_eq] at h1
    have := StrLaws.reprText_len ⟨s.toArray⟩ (fun c hc => Nat.lt_trans (h1 c (by simpa using hc)) (by decide))
    omega
  | int i =>
    simp only [Bool.and_eq_true, decide_eq_true_eq] at h
    obtain rfl := r.int_inv
    refine .inr (.inl ⟨i, rfl, h.1, ?_⟩)
    have := h.2
    unfold strI at this
    simpa [Str.length] using this
  | non => exact .inr (.inr (.inl r.non_inv))
  | tup m ds =>
    split at h <;> first | (cases h; done) | (rename_i e; cases e; done) | skip
    rename_i i j e
    cases e
    simp only [Bool.and_eq_true, decide_eq_true_eq, Bool.not_eq_true'] at h
    obtain ⟨⟨⟨⟨hm, h1⟩, h2⟩, h3⟩, h4⟩ := h
    subst hm
    cases r with
    | tup sq rs =>
      cases rs with
      | cons r1 rs => cases rs with
        | cons r2 rs =>
          cases rs
          obtain rfl := r1.int_inv
          obtain rfl := r2.int_inv
          unfold strI at h2 h4
          exact .inr (.inr (.inr ⟨_, i, j, rfl, same_t sm sq, ⟨h1, by simpa [Str.length] using h2⟩, h3, by simpa [Str.length] using h4⟩))
  | _ => cases h
theorem cs_rse {c : Nat} {a : LE} {ta : TE} (xk : XcK C.K c) (ha : CE1 C a ta) : CompS C (tRse C.K (caK C.K c) ta C.W) (evS C.phi C.wf (.rse c a)) := by
  intro σ H e F fp D er wd post
  simp only [evS] at post
  refine bind0 ha er wd post fun x e2 v F2 H2 f fp2 g2 w2 er2 r2 _ post2 => ?_
  by_cases hf : fmtX x = true
  · rw [if_pos hf] at post2
    obtain ⟨f', ro⟩ := r2.ro
    have fz : fzn x = true := by
      cases x with
      | tup m ds =>
        unfold fmtX at hf
        split at hf <;> first | (rename_i e; cases e; done) | skip
        · rename_i i j e
          cases e
          simp only [Bool.and_eq_true, decide_eq_true_eq, Bool.not_eq_true'] at hf
          simp [fzn, fznL, hf.1.1.1.1]
        · cases hf
      | str _ => rfl
      | int _ => rfl
      | non => rfl
      | _ => cases hf
    have rf : Rf C.K F2 v x := (ro.frozen fz).1
    refine rseQ_of (fmtV_of w2.ext rf hf) fun dx n => ?_
    have w2' := w2.less (.dropL f fp2)
    have fdx : F2 dx = none := by
      cases q : F2 dx with
      | none => rfl
      | some o => rw [w2.ext _ _ q] at n; cases n
    have ge : Same F2 (glue F2 (upd H2 dx (.xd [(sValue, v)])) [dx]) := glue_ext fun p hp => by
      simp only [List.mem_cons, List.not_mem_nil, or_false] at hp
      subst hp; exact fdx
    have w3 : Wd F2 (upd H2 dx (.xd [(sValue, v)])) (dx :: fp2) C.fb := w2'.new n er2.dom
    refine post2 (glue F2 (upd H2 dx (.xd [(sValue, v)])) [dx]) (upd H2 dx (.xd [(sValue, v)])) σ fp2 _ dx
      (((g2.less fun q hq => List.mem_append_right _ hq).trans (Go.new n)).trans (Go.freeze (f := [dx]) (fun p hp => hp) fun p hp => ?_)) (Wd.freeze (f := [dx]) w3) (er2.mono ge (fun p hp => ?_) fun p hp => ?_) ⟨rfl, xk, v, by rw [glue_in (List.mem_cons_self ..), upd_same], rf.mono ge⟩
    · simp only [List.mem_cons, List.not_mem_nil, or_false] at hp
      subst hp; exact fdx
    · exact upd_ne fun z => (w2'.lent p hp).2.2 (by rw [z]; exact n)
    · exact upd_ne fun z => er2.dom p hp (by rw [z]; exact n)
  · rw [if_neg hf] at post2; exact post2.elim
def Cz.wish (C : Cz) (W : WX) : Cz := { C with W := W }
theorem cs_tryx {b h : LB} {k i : Nat} (hk : k = 100 ∨ (k < 9 ∧ PySem.W.nsIn C.K mainGlobals (clsNm k) = some (some (.ref (caK C.K k))))) :
    CompS C (fun D σ H => (fun W => tSW (C.wish W) (evB C.phi C.wf b)) (wX C.K (clV C.K k) i (tSW C.nox (evB C.phi C.wf h)) C.W D) D σ H) (evS C.phi C.wf (.tryx b k i h)) := by
  intro σ H e F fp D er wd post
  simp only [evS] at post
  refine ⟨e, F, fp, er, wd, ?_⟩
  cases hv : evB C.phi C.wf b e with
  | bad => rw [hv] at post; exact post.elim
  | ok f e1 =>
    rw [hv] at post
    exact post
  | xc c d e1 =>
    simp only [hv] at post
    intro F' H' σ' fp' cls dx g w er' hx
    obtain ⟨hc, xk, v, hd, rf⟩ := id hx
    refine ⟨subX c k, by rw [hc]; exact (xk.k k hk).2, fun hb => ⟨caK C.K c, dx, hc, rfl, fun a na => ?_⟩, fun hb => ?_⟩
    · rw [if_pos hb] at post
      cases hs : setS e1 i (.exc c d) with
      | none => rw [hs] at post; exact post.elim
      | some e2 =>
        rw [hs] at post
        have fa : F' a = none := by
          cases q : F' a with
          | none => rfl
          | some o => rw [w.ext _ _ q] at na; cases na
        have ge : Same F' (glue F' (upd H' a (exv a (caK C.K c) dx)) [a]) := glue_ext fun p hp => by
          simp only [List.mem_cons, List.not_mem_nil, or_false] at hp
          subst hp; exact fa
        have nda : dx ≠ a := fun z => by rw [z, fa] at hd; cases hd
        have ro : Ro C.K (glue F' (upd H' a (exv a (caK C.K c) dx)) [a]) (upd H' a (exv a (caK C.K c) dx)) (.ref a) (.exc c d) [] :=
          .frz (.exc (by rw [glue_in (List.mem_cons_self ..), upd_same]) (ge _ _ hd) xk (rf.mono ge))
        have er2 := er'.mono (H' := upd H' a (exv a (caK C.K c) dx)) ge (fun p hp => upd_ne fun z => (w.lent p hp).2.2 (by rw [z]; exact na)) fun p hp => upd_ne fun z => er'.dom p hp (by rw [z]; exact na)
        obtain ⟨fp2, er3, n3⟩ := EnvR.set ro er2 hs
        have w3 : Wd F' (upd H' a (exv a (caK C.K c) dx)) (a :: fp') C.fb := w.new na er'.dom
        have w4 : Wd (glue F' (upd H' a (exv a (caK C.K c) dx)) [a]) (upd H' a (exv a (caK C.K c) dx)) fp' C.fb := Wd.freeze (f := [a]) w3
        have g4 : Go F H fp (glue F' (upd H' a (exv a (caK C.K c) dx)) [a]) (upd H' a (exv a (caK C.K c) dx)) fp' := (g.trans (Go.new na)).trans (Go.freeze (f := [a]) (fun p hp => hp) fun p hp => by
          simp only [List.mem_cons, List.not_mem_nil, or_false] at hp
          subst hp; exact fa)
        have g5 := g4.less n3.1
        refine ⟨e2, _, fp2, er3, w4.less n3, ?_⟩
        have post : PostS C F H fp ((noX (evB C.phi C.wf h e2)).andThen fun f e => (lift (clrS e i) e).andThen fun e _ => .ok f e) D := post
        cases hh : evB C.phi C.wf h e2 with
        | bad => rw [hh] at post; exact post.elim
        | xc c2 d2 e3 => rw [hh] at post; exact post.elim
        | ok f2 e3 =>
          rw [hh] at post
          cases hcl : clrS e3 i with
          | none =>
            simp only [noX, Res.andThen, lift, hcl] at post
            exact post.elim
          | some e4 =>
            simp only [noX, Res.andThen, lift, hcl] at post
            have post : EndAt C F H fp D f2 e4 := post
            cases f2 with
            | nx =>
              intro F3 H3 σ3 fp3 g3 w3 er3
              obtain ⟨fp4, a1, _, a3, _⟩ := er3.clr none hcl
              exact post F3 H3 (σ3.set i none) fp4 ((g5.trans g3).less a3.1) (w3.less a3) a1
            | bk =>
              intro F3 H3 σ3 fp3 g3 w3 er3
              obtain ⟨fp4, a1, _, a3, _⟩ := er3.clr none hcl
              exact post F3 H3 (σ3.set i none) fp4 ((g5.trans g3).less a3.1) (w3.less a3) a1
            | ct =>
              intro F3 H3 σ3 fp3 g3 w3 er3
              obtain ⟨fp4, a1, _, a3, _⟩ := er3.clr none hcl
              exact post F3 H3 (σ3.set i none) fp4 ((g5.trans g3).less a3.1) (w3.less a3) a1
            | rt d2 =>
              intro F3 H3 σ3 v3 f3 fp3 g3 w3 er3 ro3
              obtain ⟨fp4, a1, _, a3, _⟩ := er3.clr none hcl
              have n4 := a3.left f3
              exact post F3 H3 (σ3.set i none) v3 f3 fp4 ((g5.trans g3).less n4.1) (w3.less n4) a1 ro3
    · rw [if_neg (by rw [hb]; exact Bool.false_ne_true)] at post
      exact post F' H' σ' fp' cls dx g w er' hx
end
/-! list.count, list.index of a value without parts -/
def lmN (cnt : Bool) : Str := if cnt then "count" else "index"
def rLm (K : PySem.W.Frag) (cnt : Bool) : V → List V → Hp → VK → Prop := fun x xs H Q => ∃ F d f c w d3, Same F H ∧ Ro K F H x d f ∧ xs = [w] ∧ Rf K (fun _ => none) w c ∧ lmop cnt c d = some d3 ∧ Q (match d3 with | .int i => V.int i | _ => .non) H
theorem ros_idx {K : PySem.W.Frag} {F H : Hp} {w : V} {c : D} (rw' : Rf K (fun _ => none) w c) (hc : scalD c = true) : ∀ {vs : List V} {ds : List D} {f : List Addr} {j : Nat}, Ros K F H vs ds f → ds.all scalD = true → ds.findIdx? (fun z => eqB z c) = some j →
    ∃ z, vs[j]? = some z ∧ eqV z w = true ∧ ∀ (m : Nat) (z' : V), m < j → vs[m]? = some z' → eqV z' w = false
  | _, _, _, j, .nil, _, h => by simp at h
  | _, _, _, j, .cons (v := v) (d := d) r t, q, h => by
    simp only [List.all_cons, Bool.and_eq_true] at q
    have e := scal_eqV (K := K) (F := F) (H := H) r (.frz (rw'.mono fun _ _ z => by cases z)) q.1 hc
    rw [List.findIdx?_cons] at h
    by_cases hd : eqB d c = true
    · rw [if_pos hd] at h
      simp only [Option.some.injEq] at h
      subst h
      exact ⟨v, rfl, by rw [e]; exact hd, fun m z' hm => by omega⟩
    · rw [if_neg hd] at h
      simp only [Option.map_eq_some_iff] at h
      obtain ⟨j', h, rfl⟩ := h
      obtain ⟨z, h1, h2, h3⟩ := ros_idx rw' hc t q.2 h
      refine ⟨z, by simpa using h1, h2, fun m z' hm hz => ?_⟩
      match m, hm, hz with
      | 0, _, hz =>
        simp only [List.getElem?_cons_zero, Option.some.injEq] at hz
        subst hz
        rw [e]; simpa using hd
      | m + 1, hm, hz => exact h3 m z' (by omega) (by simpa using hz)
theorem ros_cnt {K : PySem.W.Frag} {F H : Hp} {w : V} {c : D} (rw' : Rf K (fun _ => none) w c) (hc : scalD c = true) : ∀ {vs : List V} {ds : List D} {f : List Addr}, Ros K F H vs ds f → ds.all scalD = true →
    vs.all flatV = true ∧ vs.countP (fun z => eqV z w) = ds.countP fun z => eqB z c
  | _, _, _, .nil, _ => ⟨rfl, rfl⟩
  | _, _, _, .cons r t, q => by
    simp only [List.all_cons, Bool.and_eq_true] at q
    have e := scal_eqV (K := K) (F := F) (H := H) r (.frz (rw'.mono fun _ _ z => by cases z)) q.1 hc
    obtain ⟨a, b⟩ := ros_cnt rw' hc t q.2
    refine ⟨by simp only [List.all_cons, scal_flatV r q.1, a, Bool.and_self], ?_⟩
    rw [List.countP_cons, List.countP_cons, b, e]
theorem vals_cnt {x : V} : ∀ {ys : List V} {us : List Value}, Vals ys us → ys.all flatV = true → us.countP (eqU x) = ys.countP fun z => eqV z x
  | _, _, .nil, _ => rfl
  | _, _, .cons r t, f => by
    rw [List.all_cons, Bool.and_eq_true] at f
    rw [List.countP_cons, List.countP_cons, vals_cnt t f.2, eqU_of r f.1]
theorem mt_lm_idx {X : Cx} : MtR X "list.index" (rLm X.K false) := by
  intro pins s σ H x xs v us Q I rx rs h
  obtain ⟨F, d, f, c, w, d3, sm, rd, rfl, rw', hb, q⟩ := h
  refine mt_index pins s σ H x [w] v us Q I rx rs ?_
  cases d <;> simp only [lmop, reduceCtorEq] at hb
  split at hb
  · rename_i hz
    simp only [Bool.and_eq_true] at hz
    simp only [Bool.false_eq_true, if_false, Option.map_eq_some_iff] at hb
    obtain ⟨j, hj, rfl⟩ := hb
    obtain ⟨a, ws, g, rfl, sq, ro, ns⟩ := rd.lst_inv sm
    obtain ⟨z, h1, h2, h3⟩ := ros_idx rw' hz.1 ro hz.2 hj
    exact ⟨a, ws, w, j, z, rfl, rfl, sq, scal_flatV (K := X.K) (F := F) (H := H) (.frz (rw'.mono fun _ _ z => by cases z)) hz.1, (ros_cnt rw' hz.1 ro hz.2).1, h1, h2, h3, q⟩
  · cases hb
theorem mt_lm_cnt {X : Cx} : MtR X "list.count" (rLm X.K true) := by
  intro pins s σ H x xs v us Q I rx rs h
  obtain ⟨F, d, f, c, w, d3, sm, rd, rfl, rw', hb, q⟩ := h
  cases d <;> simp only [lmop, reduceCtorEq] at hb
  split at hb
  · rename_i hz
    simp only [Bool.and_eq_true] at hz
    simp only [if_true, Option.some.injEq] at hb
    subst hb
    obtain ⟨a, ws, g, rfl, sq, ro, ns⟩ := rd.lst_inv sm
    obtain ⟨h1, h2⟩ := ros_cnt rw' hz.1 ro hz.2
    cases rx
    obtain ⟨u, rfl, ru⟩ := rs.one
    obtain ⟨its, rv, ⟨⟨cls, dd, data, sl⟩, n, ho, hc, hdn, hd⟩, hlen⟩ := I.list sq
    simp only at hc hd
    subst hc hd
    have fw : flatV w = true := scal_flatV (K := X.K) (F := F) (H := H) (.frz (rw'.mono fun _ _ z => by cases z)) hz.1
    refine call_meets PySem.F.slot_list_count ⟨_, ho, rfl⟩ PySem.F.entry_list_count (PySem.F.args_list_count_2 _ _)
      (SeqAt.list_countAt a its.toArray n dd sl u (eqU w)) ⟨ho, fun y hy => mem_eqAt ru fw rv h1 y (by simpa using hy), ?_⟩
    have ec : its.toArray.toList.countP (eqU w) = ws.countP fun z => eqV z w := by
      have := vals_cnt (x := w) rv h1
      simpa using this
    refine ⟨.int _, H, I.tok _, ⟨s.toks, ?_⟩, q⟩
    show Value.int ((its.toArray.toList.countP (eqU w) : Nat) : Int) s.toks = Value.int _ s.toks
    rw [ec, h2]
  · cases hb
section
variable {C : Cz}
theorem comp_lm {cnt : Bool} {c : D} {a : LE} {w : V} {ta : TE} (rw' : Rf C.K (fun _ => none) w c) (ha : CE1 C a ta) : CE1 C (.lm cnt c a) (tBM C.K "list" (rLm C.K cnt) ta (tCons (tC w) tNil)) := by
  intro σ H e F fp Q er wd post
  simp only [evE] at post
  refine ha.bind er wd post fun x e1 v F1 H1 f fp1 g1 w1 er1 r1 pu1 post1 => ?_
  obtain ⟨f1, ro1⟩ := r1.ro
  have post2 : Post C (RV C.K false) (pureE (.lm cnt c a)) F H fp e σ (lift (lmop cnt c x) e1) Q := post1
  cases hb : lmop cnt c x with
  | none => rw [hb] at post2; exact post2.elim
  | some d3 =>
    rw [hb] at post2
    have hx : ∃ m xs, x = .lst m xs ∧ ∃ i, d3 = .int i := by
      cases x <;> simp only [lmop, reduceCtorEq] at hb
      split at hb
      · split at hb
        · simp only [Option.some.injEq] at hb
          exact ⟨_, _, rfl, _, hb.symm⟩
        · simp only [Option.map_eq_some_iff] at hb
          obtain ⟨j, _, rfl⟩ := hb
          exact ⟨_, _, rfl, _, rfl⟩
      · cases hb
    obtain ⟨m, xs, rfl, i, rfl⟩ := hx
    obtain ⟨p, ws, g, rfl, sq, _, _⟩ := ro1.lst_inv w1.ext
    refine ⟨.inl ⟨rfl, ws, sq⟩, ?_⟩
    show rLm C.K cnt (.ref p) [w] H1 Q
    exact ⟨F1, _, f1, c, w, _, w1.ext, ro1, rfl, rw', hb, post2.retS g1 w1 (.dropL _ _) er1 (.int _) fun z => pu1 (by simpa [pureE] using z)⟩
end
end Z

set_option Elab.async false
set_option linter.all false
set_option maxRecDepth 100000
set_option maxHeartbeats 4000000
/-! ZX5: an exception made and kept. -/
namespace Z
open PySem L2 PyProof.Rows

section
variable {X : Cx}
/-- what is made, known as a value -/
theorem pe_of_mk {e : Expr} {t : L2.St → Hp → XK → Prop} (he : PMk X e t) : PE X e (fun σ H Q => t σ H fun cls d H' => ∃ (C dx : Addr), cls = .ref C ∧ d = some dx ∧ ∀ a, H' a = none → Q (.ref a) (upd H' a (exv a C dx))) := by
  refine ⟨fun pins s σ H Q I h => wpAny_mono (he pins s σ H _ I h) (fun u s1 hu => ?_) fun _ _ x => x⟩
  obtain ⟨a, oe, vs, sI, H', cls, d, rfl, J, k, hne, ha, hz, hd, h1, na, os, ag, r, C, dx, rfl, rfl, q⟩ := hu
  have J1 : L2.Inv X pins σ (upd H' a (exv a C dx)) s1 := J.call' (ch := []) os (Un.laidN k hne na) (J.hok.laidN k na (exv_ok ha hz.1 hz.2 hd)) ag (fun b z => absurd z (by simp))
  exact ⟨.ref a, _, J1, rfl, q a na⟩
def mkW (Q : VK) : WX := fun cls d _ H' => ∃ (C dx : Addr), cls = .ref C ∧ d = some dx ∧ ∀ a, H' a = none → Q (.ref a) (upd H' a (exv a C dx))
def tMkx (C : Addr) (K : PySem.W.Frag) (te : TE) : TE := fun σ H Q => te σ H (rseQ K C σ (mkW Q))
theorem pe_mkx {file : Str} {C : Addr} {x : Str} {e : Expr} {te : TE} {p p2 : Pos} {k : Nat} (T : XcF file X.K C) (G : XcG X.prog X.K) (hfile : ((X.prog.main.file : Str) == file) = true) (hr : Room (k + 1) X.A) (hg : Gl X x) (hm : X.mg x = some (.ref C))
    (hdb : (x == ("__debug__" : Str)) = false) (he : PE X e te) (hst : starEach [e] X.env = (false, eval e X.env) :: starEach [] X.env) : PE X (.Call (.Name x p) [e] [] p2) (tMkx C X.K te) := by
  obtain ⟨fd, D⟩ := T.iniD
  have F1 : FnOk X.prog X.w X.K X.mg X.base cx0 k (He.ma X.K C sInit) fd [sSelf, sValue] (spI X.K C) := init_ok T G hfile D k
  have hpa : PA X [e] (tCons te tNil) := pa_cons he pa_nil hst
  have pm := pmk_oex (e := e) (es := []) (p := p) (pos := p2) (dvs := []) T.oex T.ini T.inT F1 hr (binds_ini D) .nil (fun _ _ _ _ _ _ _ z => z.elim) hg hm hpa hdb hst
  refine ⟨fun pins s σ H Q I h => (pe_of_mk pm).run pins s σ H Q I ?_⟩
  exact h
end
end Z

set_option Elab.async false
set_option linter.all false
set_option maxRecDepth 100000
set_option maxHeartbeats 4000000
/-! ZX6: an own exception made by name: X(value=v). -/
namespace PySem
namespace HandSPX
open Builtin Builtin.ObjectAttr
section
variable {M : Model} {A : Around} {E : Value → Shared → Prop} {h : Heap} {g : Array GenState} {d : Drawn} {t : Nat} {os : OsState}
variable {nm q : Str} {C N : Addr} {bs bm bmB : List Value} {hdct : Bool} {sn : List Str} {sub : List Value} {ab : Bool} {col : Option Bool} {dd : Option Addr} {k0 k1 k2 k3 k5 : Option Value} {B newId initId : String}
theorem star_chkK (newId B : String) (c : Value) (rest : List Value) (kw : List (Str × Value)) (hs : Bind.checkArgs newId ⟨.any, B, B, .cls, [⟨"args", .varPos, false⟩, ⟨"kwargs", .varKw, false⟩]⟩ ⟨c :: rest, kw⟩ = pure ()) : True := trivial
theorem new_chkK (F : ExcBaseFacts B newId initId bmB) (hT : ∀ Y : String, bm.contains (.type Y) = bmB.contains (.type Y)) {kw : List (Str × Value)} {Q : Unit → Shared → Prop}
    (hC : h.get? C = some (excClassObj nm q C N bs bm hdct sn sub ab col dd k0 k1 k2 k3 k5 newId)) (hq : Q () ⟨h, g, d, t, os⟩) : wpAny M A (checkBuiltinCall newId ⟨[.ref C], kw⟩) Q E ⟨h, g, d, t, os⟩ := by
  have c1 : (Value.ref C :: bm).contains (.type B) = true := by
    rw [List.contains_cons]; rw [hT, F.hasB]; rw [Bool.or_true]
  have c2 := F.noStar
  simp only [F.newRow, F.newSplit, F.newKind, checkBuiltinCall]
  repeat (first | refine wpAny_loadPart_at hC ?_ | (refine wpAny_isSubtype_exc hC ?_; rw [c1]) | refine wpAny_staticBase_exc hC ?_ | refine wpAny_madeBy_exc hC ?_ | simp only [bne_self_eq_false, Bool.false_eq_true, if_false] | wp_step)
  exact hq
end
section
variable {prog : Program} {w : World} {A : Around} {E : Value → Shared → Prop} {R : Result → Shared → Prop} {h : Heap} {g : Array GenState} {d : Drawn} {t : Nat} {os : OsState}
variable {nm q : Str} {C N : Addr} {bs bm bmB : List Value} {hdct : Bool} {sn : List Str} {sub : List Value} {ab : Bool} {col : Option Bool} {dd : Option Addr} {k0 k1 k2 k3 k5 : Option Value} {B newId initId : String}
theorem new_ownK (F : ExcBaseFacts B newId initId bmB) (hT : ∀ Y : String, bm.contains (.type Y) = bmB.contains (.type Y)) {kw : List (Str × Value)}
    (hC : h.get? C = some (excClassObj nm q C N bs bm hdct sn sub ab col dd k0 k1 k2 k3 k5 newId))
    (hq : R (.ok (.ret (.ref (h.objs.size + 1)))) ⟨(h.push (W.kdv_tup [])).push (excO C h.objs.size), g, d, t, os⟩) :
    codeAny (model prog w) A (.builtin newId ⟨[.ref C], kw⟩) R ⟨h, g, d, t, os⟩ := by
  have z0 : ([] : List Value).length ≤ sizeLine := Nat.zero_le _
  have z1 := F.ends
  have c1 : (Value.ref C :: bm).contains (.type B) = true := by
    rw [List.contains_cons]; rw [hT, F.hasB]; rw [Bool.or_true]
  have c2 : (Value.ref C :: bm).contains (.type "AttributeError") = false := by
    rw [List.contains_cons]; rw [hT, F.noAttr]; rfl
  have c3 : (Value.ref C :: bm).contains (.type "NameError") = false := by
    rw [List.contains_cons]; rw [hT, F.noName]; rfl
  refine codeAny_builtinAt F.entry ?_
  unfold Builtin.«BaseException.__new__»
  refine wpAt_bind ?_
  show wpAt _ _ _ (stack >>= _) _ _ _
  refine wpAt_bind (wpAt_stack fun p below => wpAt_of_wpAny ?_)
  wp_walk
  refine wpAt_of_wpAny ?_
  rw [F.owner]
  repeat (first | with_reducible refine wpAny_madeHere_exc F.canon hC ?_ | with_reducible refine wpAny_loadPart_at hC ?_ | (with_reducible refine wpAny_isSubtype_exc hC ?_; first | rw [c1] | rw [c2] | rw [c3]) | wp_step)
  show R _ _
  rw [Heap.size_push]
  exact hq
theorem typ_ownK (F : ExcBaseFacts B newId initId bmB) (hT : ∀ Y : String, bm.contains (.type Y) = bmB.contains (.type Y)) {kw : List (Str × Value)} {fI : Addr} {Q : Fin → Shared → Prop}
    (hC : h.get? C = some (excClassObj nm q C N bs bm hdct sn sub ab col dd k0 k1 k2 k3 k5 newId))
    (hi : W.Looks (model prog w) h (typeLookup (.ref C) "__init__") (some (.ref fI))) (hb : ∀ self, W.Looks (model prog w) h (bindSpecial (.ref fI) self) (.ref fI, [self]))
    (hq : codeAny (model prog w) A (.call (.ref fI) ⟨[.ref (h.objs.size + 1)], kw⟩)
      (fun r s' => match r with | .error e => E e s' | .ok (.ret v) => v = .none ∧ Q (.done (.ret (.ref (h.objs.size + 1)))) s' | .ok _ => False)
      ⟨(h.push (W.kdv_tup [])).push (excO C h.objs.size), g, d, t, os⟩) :
    wpAny (model prog w) A (Builtin.«type.__call__» ⟨[.ref C], kw⟩) Q E ⟨h, g, d, t, os⟩ := by
  repeat (first | with_reducible refine wpAny_madeBy_exc hC ?_ | with_reducible refine wpAny_loadPart_at hC ?_ | wp_step)
  refine codeAny_call_builtin_code (Code.quiet_builtin _ F.quiet) (new_chkK F hT hC ?_)
  refine new_ownK F hT hC ?_
  show wpAny _ _ _ _ _ _
  have kp : ∀ b o, h.get? b = some o → ((h.push (W.kdv_tup [])).push (excO C h.objs.size)).get? b = some o := fun b o e => Heap.get?_push_of_some _ (Heap.get?_push_of_some _ e)
  have hN := kp _ _ hC
  have hG : ((h.push (W.kdv_tup [])).push (excO C h.objs.size)).get? (h.objs.size + 1) = some (excO C h.objs.size) := by heap_get
  have hCC : (Value.ref C :: bm).contains (.ref C) = true := by simp
  have ix := hi.keeps kp
  have bx := (hb (.ref (h.objs.size + 1))).keeps kp
  unfold isInstance
  repeat (first | with_reducible refine wpAny_loadPart_at hG ?_ | (with_reducible refine wpAny_isSubtype_exc hN ?_; rw [hCC]) | wp_step)
  show wpAny _ _ (typeLookup (.ref C) _) _ _ _
  refine ix.at ?_
  refine wpAny_holding (wpAny_bind (bx.at ?_))
  refine wpAny_bind (wpAny_call (codeAny_mono hq fun r s' z => ?_))
  rcases r with e | (v | _ | _ | _)
  all_goals first | exact z | exact (show False from z).elim | skip
  obtain ⟨rfl, z⟩ := z
  first
    | exact wpAny_pure (wpAny_pure z)
    | (wp_walk; exact z)
theorem tch_kw {M : Model} {kw : List (Str × Value)} {Q : Unit → Shared → Prop} (hC : h.get? C = some (excClassObj nm q C N bs bm hdct sn sub ab col dd k0 k1 k2 k3 k5 newId))
    (hq : Q () ⟨h, g, d, t, os⟩) : wpAny M A (checkBuiltinCall "type.__call__" ⟨[.ref C], kw⟩) Q E ⟨h, g, d, t, os⟩ := by
  have f3 := tc_sub
  have hT : (⟨h, g, d, t, os⟩ : Shared).TypeIs (.ref C) "type" := ⟨_, hC, rfl⟩
  simp only [checkBuiltinCall, tc_split, tc_kind]
  repeat (any_goals (first | assumption | with_reducible refine wpAny_loadPart_at hC ?_ | with_reducible refine wpAny_onRaise ?_ | with_reducible refine wpAny_map ?_ | wp_step))
theorem call_ownK (F : ExcBaseFacts B newId initId bmB) (hT : ∀ Y : String, bm.contains (.type Y) = bmB.contains (.type Y)) {kw : List (Str × Value)} {fI : Addr}
    (hC : h.get? C = some (excClassObj nm q C N bs bm hdct sn sub ab col dd k0 k1 k2 k3 k5 newId))
    (hi : W.Looks (model prog w) h (typeLookup (.ref C) "__init__") (some (.ref fI))) (hb : ∀ self, W.Looks (model prog w) h (bindSpecial (.ref fI) self) (.ref fI, [self]))
    (hq : codeAny (model prog w) (A.under (.builtin "type.__call__" ⟨[.ref C], kw⟩)) (.call (.ref fI) ⟨[.ref (h.objs.size + 1)], kw⟩) (W.InitBack (h.objs.size + 1) R)
      ⟨(h.push (W.kdv_tup [])).push (excO C h.objs.size), g, d, t, os⟩) :
    codeAny (model prog w) A (.call (.ref C) ⟨[], kw⟩) R ⟨h, g, d, t, os⟩ := by
  have w1 := tc_lookup
  have w2 := tc_bind (.ref C)
  have w3 : (⟨h, g, d, t, os⟩ : Shared).TypeIs (.ref C) "type" := ⟨_, hC, rfl⟩
  refine codeAny_of_tree ?_
  show wpAny _ _ (callAny (.ref C) _) _ _ _
  repeat (any_goals (first | assumption | with_reducible refine wpAny_loadPart_at hC ?_ | wp_step))
  refine ⟨rfl, ?_⟩
  refine codeAny_call_builtin_at (Code.quiet_builtin _ (by decide +kernel)) entry_typeCall (tch_kw hC (typ_ownK F hT hC hi hb ?_))
  refine codeAny_mono hq fun r s' z => ?_
  rcases r with e | (v | _ | _ | _)
  all_goals exact z
end
end HandSPX
end PySem

set_option Elab.async false
set_option linter.all false
set_option maxRecDepth 100000
set_option maxHeartbeats 4000000
/-! ZX7: X(value=v) as an expression. -/
namespace Z
open PySem L2 PyProof.Rows
theorem binds_iniK {K : PySem.W.Frag} {file : Str} {C fI : Addr} {fd : FuncData} (D : IniD file K C fI fd) : KBn K fd [sSelf, sValue] 1 [sValue] (fun us ws => us ++ ws) (fun vs zs => vs ++ zs) := by
  obtain ⟨r1, r2, p0, p1, p2, p3, p4, q1, q2, q3, q4, arg, cc, cda, sc, nm, q, kV, doc, pm, ct, an, rfl, _⟩ := ini_words D
  refine ⟨fun s us ws X l1 l2 => ?_, fun r1 r2 => r1.append r2⟩
  match us, l1, ws, l2 with
  | [u0], _, [u1], _ => exact BindsTo.of_looks fun M => (show PySem.W.Looks M s.heap (bindArgs _ _) _ from PySem.W.Looks.now)
section
variable {X : Cx}
theorem pe_mkxK {file : Str} {C : Addr} {x : Str} {kws : List Keyword} {e : Expr} {te : TE} {tk : TA} {p p2 : Pos} {k : Nat} (T : XcF file X.K C) (G : XcG X.prog X.K) (hfile : ((X.prog.main.file : Str) == file) = true) (hr : Room (k + 1) X.A) (hg : Gl X x) (hm : X.mg x = some (.ref C))
    (hkw : PK X kws (tCons te tNil)) (hall : (backToKw p2 (keywordEach kws X.env)).all (·.1.isSome) = true) (hks : (backToKw p2 (keywordEach kws X.env)).filterMap (·.1) = [sValue]) (hdb : (x == ("__debug__" : Str)) = false)
    (hpl : ((backTo p2 (starEach [] X.env)).any (·.1) || (backToKw p2 (keywordEach kws X.env)).any (·.1.isNone)) = false) : PE X (.Call (.Name x p) [] kws p2) (tMkx C X.K te) := by
  obtain ⟨fd, D⟩ := T.iniD
  have F1 : FnOk X.prog X.w X.K X.mg X.base cx0 k (He.ma X.K C sInit) fd [sSelf, sValue] (spI X.K C) := init_ok T G hfile D k
  have pm : PMk X (.Call (.Name x p) [] kws p2) (tMkO C (spI X.K C) [] (tCons te tNil)) := by
    intro pins s σ H Q I h
    obtain ⟨cnm, cq, cN, cbs, cbm, csn, csub, cab, ccol, cdd, k0, k1, k2, k3, k5, hC, hbm⟩ := T.oex.cls
    refine wpAny_Call_Name_kw (ld_glob I hg hm ?_ hdb)
    refine PySem.W.callWith_KW0 (h₀ := X.base) I.ok.mod.kin T.oex.kC hall ?_ hpl
    refine thn (hkw.run p2 pins s σ H _ I h) fun ws s1 ⟨zs, H1, I1, r1, hz, q1⟩ => ⟨I1.kIn, ?_⟩
    rw [hks]
    obtain ⟨hp, g, dr, tk, os⟩ := s1
    have hs1 : hp.objs.size ≤ hp.objs.size + 1 := Nat.le_succ _
    have hn : H1 (hp.objs.size + 1) = none := I1.hok.fresh hs1
    have hq := q1 (hp.objs.size + 1) hn
    rw [List.append_nil] at hq
    have kk : ∀ b o, hp.get? b = some o → ((hp.push (PySem.W.kdv_tup [])).push (PySem.HandSPX.excO C hp.objs.size)).get? b = some o := fun b o z => Heap.get?_push_of_some _ (Heap.get?_push_of_some _ z)
    have hgt : ((hp.push (PySem.W.kdv_tup [])).push (PySem.HandSPX.excO C hp.objs.size)).get? (hp.objs.size + 1) = some (PySem.HandSPX.excO C hp.objs.size) := by heap_get
    have I2 : L2.Inv X pins σ (upd H1 (hp.objs.size + 1) (exo (hp.objs.size + 1) C none)) ⟨(hp.push (PySem.W.kdv_tup [])).push (PySem.HandSPX.excO C hp.objs.size), g, dr, tk, os⟩ :=
      I1.laid (t' := tk) (a := hp.objs.size + 1) (o := exo (hp.objs.size + 1) C none) (h' := (hp.push (PySem.W.kdv_tup [])).push (PySem.HandSPX.excO C hp.objs.size)) kk hs1 (exo_ok hgt)
    have r2 : Vals (V.ref (hp.objs.size + 1) :: zs) ([Value.ref (hp.objs.size + 1)] ++ ws) := .cons rfl r1
    have lz : ws.length = 1 := by
      have z := F1.len _ _ _ _ hq
      have := r1.length
      simp only [List.length_cons, List.length_nil] at z
      omega
    refine wpAny_call (PySem.HandSPX.call_ownK F.excBase_ValueError (fun Y => PySem.HandSPX.refsVE_contains Y cbm hbm) (I1.kIn _ _ hC) (PySem.W.looks_findIn I1.kIn T.ini) (fun self => PySem.W.bind_fn I1.kIn self T.inT)
      (codeAny_mono (F1.run _ X.stack _ _ ⟨[Value.ref (hp.objs.size + 1)], [sValue].zip ws⟩ ([Value.ref (hp.objs.size + 1)] ++ ws) _ _ (fun _ _ _ => False) (hr.make C [] ([sValue].zip ws)) (I2.env0.make C [] ([sValue].zip ws)) ((binds_iniK D).to _ [Value.ref (hp.objs.size + 1)] ws I2.kIn rfl lz) r2 hq) fun r s' hq' => ?_))
    cases r with
    | error er => exact hq'.elim
    | ok fl =>
      cases fl with
      | ret u =>
        obtain ⟨v, H2, os2, bare2, un2, hok2, rv, ev, d, fs, ea, ed, hd1, q2⟩ := hq'
        subst ev
        obtain ⟨h2, g2, d2, t2, os'⟩ := s'
        exact ⟨rv, mk_end (raises_own T.oex.exC T.oex.tyC) I1 hs1 kk un2 hok2 os2 bare2 ea ed hd1 q2⟩
      | next => exact False.elim hq'
      | brk => exact False.elim hq'
      | cont => exact False.elim hq'
  refine ⟨fun pins s σ H Q I h => (pe_of_mk pm).run pins s σ H Q I ?_⟩
  exact h
end
section
variable {C : Cz}
theorem fzn_fmt {x : D} (hf : fmtX x = true) : fzn x = true := by
  cases x with
  | tup m ds =>
    unfold fmtX at hf
    split at hf <;> first | (rename_i e; cases e; done) | skip
    · rename_i i j e
      cases e
      simp only [Bool.and_eq_true, decide_eq_true_eq, Bool.not_eq_true'] at hf
      simp [fzn, fznL, hf.1.1.1.1]
    · cases hf
  | str _ => rfl
  | int _ => rfl
  | non => rfl
  | _ => cases hf
theorem comp_mkx {c : Nat} {kw : Bool} {a : LE} {ta : TE} (xk : XcK C.K c) (ha : CE1 C a ta) : CE1 C (.mkx c kw a) (tMkx (caK C.K c) C.K ta) := by
  intro σ H e F fp Q er wd post
  simp only [evE] at post
  show ta σ H (rseQ C.K (caK C.K c) σ (mkW Q))
  refine ha.bind er wd post fun x e1 v F1 H1 f fp1 g1 w1 er1 r1 pu1 post1 => ?_
  by_cases hf : fmtX x = true
  · simp only [hf, if_true] at post1
    obtain ⟨f', ro⟩ := r1.ro
    have rf : Rf C.K F1 v x := (ro.frozen (fzn_fmt hf)).1
    refine rseQ_of (fmtV_of w1.ext rf hf) fun dx n => ?_
    refine ⟨caK C.K c, dx, rfl, rfl, fun p na => ?_⟩
    have n1 : dx ≠ p := fun z => by rw [← z, upd_same] at na; cases na
    have w1' := w1.less (.dropL f fp1)
    have fdx : F1 dx = none := by
      cases q : F1 dx with
      | none => rfl
      | some o => rw [w1.ext _ _ q] at n; cases n
    have na' : H1 p = none := by rw [upd_ne (Ne.symm n1)] at na; exact na
    have fpa : F1 p = none := by
      cases q : F1 p with
      | none => rfl
      | some o => rw [w1.ext _ _ q] at na'; cases na'
    have w3 : Wd F1 (upd H1 dx (.xd [(sValue, v)])) (dx :: fp1) C.fb := w1'.new n er1.dom
    have w4 : Wd F1 (upd (upd H1 dx (.xd [(sValue, v)])) p (exv p (caK C.K c) dx)) (p :: dx :: fp1) C.fb := w3.new na fun q hq => by
      rcases List.mem_cons.mp hq with rfl | z
      · rw [upd_same]; exact fun z => by cases z
      · rw [upd_ne fun y => er1.dom q z (by rw [y]; exact n)]
        exact er1.dom q z
    have ff : ∀ q ∈ [p, dx], F1 q = none := fun q hq => by
      simp only [List.mem_cons, List.not_mem_nil, or_false] at hq
      rcases hq with rfl | rfl <;> assumption
    have ge : Same F1 (glue F1 (upd (upd H1 dx (.xd [(sValue, v)])) p (exv p (caK C.K c) dx)) [p, dx]) := glue_ext ff
    have w5 : Wd (glue F1 (upd (upd H1 dx (.xd [(sValue, v)])) p (exv p (caK C.K c) dx)) [p, dx]) (upd (upd H1 dx (.xd [(sValue, v)])) p (exv p (caK C.K c) dx)) fp1 C.fb := Wd.freeze (f := [p, dx]) w4
    have g5 := (((g1.less fun q hq => List.mem_append_right _ hq).trans (Go.new (o := .xd [(sValue, v)]) n)).trans (Go.new (o := exv p (caK C.K c) dx) na)).trans (Go.freeze (f := [p, dx]) (rest := fp1) (fun q hq => hq) ff)
    have post1 : Post C (RV C.K (isB (.mkx c kw a))) (pureE (.mkx c kw a)) F H fp e σ (.ok (.exc c x) e1) Q := post1
    refine post1.retS g5 w5 (.refl _) (er1.mono ge (fun q hq => ?_) fun q hq => ?_) (.exc (by rw [glue_in (List.mem_cons_self ..), upd_same]) (by rw [glue_in (List.mem_cons_of_mem _ (List.mem_cons_self ..)), upd_ne n1, upd_same]) xk (rf.mono ge)) fun z => by cases z
    · rw [upd_ne fun z => (w1'.lent q hq).2.2 (by rw [z]; exact na'), upd_ne fun z => (w1'.lent q hq).2.2 (by rw [z]; exact n)]
    · rw [upd_ne fun z => er1.dom q hq (by rw [z]; exact na'), upd_ne fun z => er1.dom q hq (by rw [z]; exact n)]
  · simp only [hf, if_false, Bool.false_eq_true] at post1
    exact post1.elim
end
end Z

set_option Elab.async false
set_option linter.all false
set_option maxRecDepth 100000
set_option maxHeartbeats 4000000
/-! ZX8: a class of exceptions without its own __init__, made with no argument. -/
namespace Z
open PySem L2 PyProof.Rows
section
variable {X : Cx} {C : Addr} {bmB : List Value} {B newId initId : String}
theorem pmk_own0 {x : Str} {p pos : Pos} (F : ExcBaseFacts B newId initId bmB) (q : PySem.W.excIn X.K C bmB newId = true) (gC : X.mg x = some (.ref C)) (kC : PySem.W.keepIn X.K (.ref C) = true) (r : Raises X (.ref C)) (hg : Gl X x)
    (hdb : (x == ("__debug__" : Str)) = false) : PMk X (.Call (.Name x p) [] [] pos) (fun _ H Q => Q (.ref C) none H) := by
  intro pins s σ H Q I h
  refine wpAny_Call_Name_kw (ld_glob I hg gC ?_ hdb)
  refine PySem.W.callWith_KW0 (h₀ := X.base) I.ok.mod.kin kC rfl ?_ rfl
  refine thn (pk_nil.run pos pins s σ H (fun vs H1 => vs = [] ∧ H = H1) I ⟨rfl, rfl⟩) fun us s1 hh => ?_
  obtain ⟨vs, H1, I1, r1, rfl, rfl⟩ := hh
  refine ⟨I1.kIn, ?_⟩
  cases r1
  show wpAny _ _ (call (.ref C) []) _ _ _
  obtain ⟨bm, N, nm, qn, bs, hdct, sn, sub, ab, col, dd, k0, k1, k2, k3, k5, mN, hC, hN, hni, T⟩ := exc_obj I1.kIn q
  refine wpAny_call_exc_subT F T hC hN hni (fun h' e hm => ?_) (by show 0 ≤ sizeLine; rw [sizeLine_eq]; omega)
  exact mk_of I1 hm r h (I1.hok.gone hm.new)
end
/-- such an exception, made and kept -/
def exz (a C : Addr) : HO := .ext fun h => ∃ (oe : Obj) (vs : Array Value), h.get? a = some oe ∧ oe.cls = .ref C ∧ oe.dict = none ∧ oe.data = .fields vs
theorem exz_ok {P : Program} {w : World} {H : Hp} {h : Heap} {a C : Addr} {oe : Obj} {vs : Array Value} (h1 : h.get? a = some oe) (h2 : oe.cls = .ref C) (h3 : oe.dict = none) (h4 : oe.data = .fields vs) : ObjOk P w H h a (exz a C) :=
  ⟨⟨oe, vs, h1, h2, h3, h4⟩, ⟨_, h1⟩, fun g1 g2 ⟨o, v, a1, a2, a3, a4⟩ k => ⟨o, v, k _ a1, a2, a3, a4⟩⟩
section
variable {X : Cx}
theorem pe_of_mk0 {e : Expr} {C : Addr} (he : PMk X e (fun _ H Q => Q (.ref C) none H)) : PE X e (fun _ H Q => ∀ a, H a = none → Q (.ref a) (upd H a (exz a C))) := by
  refine ⟨fun pins s σ H Q I h => wpAny_mono (he pins s σ H (fun cls d H' => cls = .ref C ∧ d = none ∧ ∀ a, H' a = none → Q (.ref a) (upd H' a (exz a C))) I ⟨rfl, rfl, h⟩) (fun u s1 hu => ?_) fun _ _ x => x⟩
  obtain ⟨a, oe, vs, sI, H', cls, d, rfl, J, k, hne, ha, hz, hd, h1, na, os, ag, r, rfl, rfl, q⟩ := hu
  have J1 : L2.Inv X pins σ (upd H' a (exz a C)) s1 := J.call' (ch := []) os (Un.laidN k hne na) (J.hok.laidN k na (exz_ok ha hz.1 hz.2 hd)) ag (fun b z => absurd z (by simp))
  exact ⟨.ref a, _, J1, rfl, q a na⟩
/-- what must be known of the class: kitx_exc's -/
structure ZcF (K : PySem.W.Frag) (C : Addr) : Prop where
  kit : ∀ (x : Addr) (ox : Obj), PySem.W.KitX K (.ref x) (.ref C) (fun h => PySem.W.InstAt h x ox C none)
def rIsZ (K : PySem.W.Frag) : List V → Hp → VK → Prop := fun xs H Q => ∃ (a tp C : Addr) (cs : List Addr) (b : Bool), xs = [.ref a, .ref tp] ∧ ZcF K C ∧ H a = some (exz a C) ∧ H tp = some (.tup (cs.map V.ref)) ∧ PySem.W.kitAny K (.ref C) (cs.map Value.ref) = some b ∧ Q (.bl b) H
theorem vals_refs : ∀ {cs : List Addr} {us : List Value}, Vals (cs.map V.ref) us → us = cs.map Value.ref
  | [], us, r => by cases r; rfl
  | c :: cs, us, r => by
    cases r with
    | cons h r => rw [vals_refs r]; exact congrArg (· :: _) h
theorem call_isz : CallR X (.builtin "isinstance") (rIsZ X.K) := by
  intro pins s σ H xs us Q I r h
  obtain ⟨a, tp, C, cs, b, rfl, T, ea, et, e, q⟩ := h
  cases r with
  | @cons _ u0 _ us ra r =>
  cases r with
  | @cons _ u1 _ us rc r =>
  cases r
  obtain rfl : u0 = Value.ref a := ra
  obtain rfl : u1 = Value.ref tp := rc
  have z : ObjOk X.prog X.w H s.heap a (.ext fun h => ∃ (oe : Obj) (vs : Array Value), h.get? a = some oe ∧ oe.cls = .ref C ∧ oe.dict = none ∧ oe.data = .fields vs) := I.hok a _ ea
  obtain ⟨oe, vs, h1, h2, h3, h4⟩ := z.1
  have ht : ObjOk X.prog X.w H s.heap tp (.tup (cs.map V.ref)) := I.hok tp _ et
  obtain ⟨hz, its, rv, it⟩ := ht
  obtain rfl := vals_refs rv
  obtain ⟨ot, e1, e2, n, e3⟩ := it
  obtain ⟨c0, d0, dt0, sl0⟩ := ot
  cases e2; cases e3
  exact PySem.W.kia_tup (T.kit a oe) I.kIn ⟨h1, h2, by unfold PySem.W.notCls; rw [h4] <;> rfl, by rw [h3]; trivial⟩ e1 e (fun z => nomatch z) fun tk => ⟨.bl b, H, I.kept (t' := tk) fun _ _ z => z, rfl, q⟩
end
end Z

set_option Elab.async false
set_option linter.all false
set_option maxRecDepth 100000
set_option maxHeartbeats 4000000
/-! ZX9: isinstance(MatchError(), (X, Y, ..)). -/
namespace Z
open PySem L2 PyProof.Rows
def bmVE : List Value := [.type "ValueError", .type "Exception", .type "BaseException", .type "object"]
/-- what must be known of the base class of all own exceptions -/
structure ZcK (K : PySem.W.Frag) (ec : List Nat) : Prop where
  exq : PySem.W.excIn K (caK K 0) bmVE "ValueError.__new__" = true
  kC : PySem.W.keepIn K (.ref (caK K 0)) = true
  exC : PySem.W.subIn K (.ref (caK K 0)) (.type "BaseException") = some true
  tyC : PySem.W.typeIn K (.ref (caK K 0)) = some (.type "type")
  hcl : (PySem.W.clsIn K (caK K 0)).isSome = true
  hga : PySem.W.findIn K (.ref (caK K 0)) "__getattribute__" = some (some (.builtin "BaseException.__getattribute__"))
  hgt : PySem.W.findIn K (.ref (caK K 0)) "__getattr__" = some none
  ha : PySem.W.findIn K (.ref (caK K 0)) "__class__" = some (some (.builtin "object.__class__"))
  hm : PySem.W.mroIn K (caK K 0) (.type "object") = some true
  no : ∀ k ∈ ec, k ≠ 0 → PySem.W.kitOne K (.ref (caK K 0)) (.ref (caK K k)) = some false
def xzB (K : PySem.W.Frag) (ec : List Nat) : Bool := PySem.W.excIn K (caK K 0) bmVE "ValueError.__new__" && PySem.W.keepIn K (.ref (caK K 0)) && decide (PySem.W.subIn K (.ref (caK K 0)) (.type "BaseException") = some true) &&
  decide (PySem.W.typeIn K (.ref (caK K 0)) = some (.type "type")) && (PySem.W.clsIn K (caK K 0)).isSome && decide (PySem.W.findIn K (.ref (caK K 0)) "__getattribute__" = some (some (.builtin "BaseException.__getattribute__"))) &&
  decide (PySem.W.findIn K (.ref (caK K 0)) "__getattr__" = some none) && decide (PySem.W.findIn K (.ref (caK K 0)) "__class__" = some (some (.builtin "object.__class__"))) && decide (PySem.W.mroIn K (caK K 0) (.type "object") = some true) &&
  ec.all fun k => decide (k = 0) || decide (PySem.W.kitOne K (.ref (caK K 0)) (.ref (caK K k)) = some false)
theorem xzB_ok {K : PySem.W.Frag} {ec : List Nat} (h : xzB K ec = true) : ZcK K ec := by
  unfold xzB at h
  simp only [Bool.and_eq_true, decide_eq_true_eq, List.all_eq_true, Bool.or_eq_true] at h
  obtain ⟨⟨⟨⟨⟨⟨⟨⟨⟨h1, h2⟩, h3⟩, h4⟩, h5⟩, h6⟩, h7⟩, h8⟩, h9⟩, h10⟩ := h
  exact ⟨h1, h2, h3, h4, h5, h6, h7, h8, h9, fun k hk hz => (h10 k hk).resolve_left hz⟩
theorem ZcK.cls {P : Program} {K : PySem.W.Frag} {ec : List Nat} (Zk : ZcK K ec) (G : XcG P K) : ZcF K (caK K 0) := ⟨fun x ox => PySem.W.kitx_exc Zk.hcl Zk.hga Zk.hgt Zk.exC Zk.ha G.cg G.ct Zk.hm⟩
theorem ZcK.any {K : PySem.W.Frag} {ec : List Nat} (Zk : ZcK K ec) : ∀ {ks : List Nat}, (∀ k ∈ ks, k ∈ ec ∧ k ≠ 0) → PySem.W.kitAny K (.ref (caK K 0)) ((ks.map (caK K)).map Value.ref) = some false
  | [], _ => rfl
  | k :: ks, h => by
    obtain ⟨h1, h2⟩ := h k (List.mem_cons_self ..)
    simp only [List.map_cons, PySem.W.kitAny, Zk.no k h1 h2]
    exact Zk.any fun k' hk => h k' (List.mem_cons_of_mem _ hk)
def tZ0 (C : Addr) : TE := fun _ H Q => ∀ a, H a = none → Q (.ref a) (upd H a (exz a C))
def tCs (K : PySem.W.Frag) : List Nat → TA
  | [] => tNil
  | k :: ks => tCons (tC (.ref (caK K k))) (tCs K ks)
theorem tCs_of {K : PySem.W.Frag} {σ : L2.St} {H : Hp} : ∀ {ks : List Nat} {Q : List V → Hp → Prop}, Q ((ks.map (caK K)).map V.ref) H → tCs K ks σ H Q
  | [], _, h => h
  | k :: ks, Q, h => by
    show tCs K ks σ H fun vs H2 => Q (.ref (caK K k) :: vs) H2
    exact tCs_of h
section
variable {C : Cz}
theorem comp_isz {P : Program} {ec ks : List Nat} (Zk : ZcK C.K ec) (G : XcG P C.K) (hks : ∀ k ∈ ks, k ∈ ec ∧ k ≠ 0) (hl : ks.length ≤ sizeL) : CE1 C (.isz ks) (tCB (rIsZ C.K) (tCons (tZ0 (caK C.K 0)) (tCons (tTup (tCs C.K ks)) tNil))) := by
  intro σ H e F fp Q er wd post
  have ha : ks.all (fun k => decide (k ≠ 0)) = true := List.all_eq_true.mpr fun k hk => decide_eq_true (hks k hk).2
  simp only [evE, ha, if_true] at post
  intro a na
  show tCs C.K ks σ (upd H a (exz a (caK C.K 0))) _
  refine tCs_of ⟨by simp only [List.length_map]; rw [← sizeL_eq]; exact hl, fun p hp => ?_⟩
  have np : p ≠ a := fun z => by rw [z, upd_same] at hp; cases hp
  have hp' : H p = none := by rw [upd_ne np] at hp; exact hp
  have post1 : Post C (RV C.K (isB (.isz ks))) (pureE (.isz ks)) F H fp e σ (.ok (.bl false) e) Q := post
  refine ⟨a, p, caK C.K 0, ks.map (caK C.K), false, rfl, Zk.cls G, by rw [upd_ne (Ne.symm np), upd_same], upd_same, Zk.any hks, ?_⟩
  have w1 : Wd F (upd H a (exz a (caK C.K 0))) (a :: fp) C.fb := wd.new na er.dom
  have w2 : Wd F (upd (upd H a (exz a (caK C.K 0))) p (.tup ((ks.map (caK C.K)).map V.ref))) (p :: a :: fp) C.fb := w1.new hp fun q hq => by
    rcases List.mem_cons.mp hq with rfl | z
    · rw [upd_same]; exact fun z => by cases z
    · rw [upd_ne fun y => er.dom q z (by rw [y]; exact na)]
      exact er.dom q z
  refine post1.retS ((Go.new na).trans (Go.new hp)) w2 (((NS.dropL [p, a] fp) : _)) (er.mono (.refl _) (fun q hq => ?_) fun q hq => ?_) (.bl _) fun z => by cases z
  · rw [upd_ne fun z => (wd.lent q hq).2.2 (by rw [z]; exact hp'), upd_ne fun z => (wd.lent q hq).2.2 (by rw [z]; exact na)]
  · rw [upd_ne fun z => er.dom q hq (by rw [z]; exact hp'), upd_ne fun z => er.dom q hq (by rw [z]; exact na)]
end
end Z

set_option Elab.async false
set_option linter.all false
set_option maxRecDepth 100000
set_option maxHeartbeats 4000000
/-! Z13: which terms stand for which expressions. -/
namespace Z
open PySem L2 PyProof.Rows
open ZZ (iZipB pi_zipB)

/-! ### what a def's body sees -/
structure Tb where
  N : List Str
  sc : Scope
  fns : List (Str × Nat × List Str)
  gls : List (Str × D)
  bls : List Str
  kfns : List (Str × List Str × Nat × List Nat × Nat)
  co : Bool
  /-- the classes of exceptions that are known -/
  ecs : List Nat
  /-- within an except suite -/
  hot : Bool
  /-- defs that may be called within an except suite -/
  hfn : List (Str × Nat × List Str)
structure Good (X : Cx) (C : Cz) (T : Tb) : Prop where
  N : X.N = T.N
  sc : X.env.scope = T.sc
  K : X.K = C.K
  nd : T.N.Nodup
  calm : T.hot = false → X.calm = true
  gd : X.A.guards = some []
  un : X.A.units + 100 < cLine
  tk : Takes X C.W
  fns : ∀ x i ps, (x, i, ps) ∈ T.fns → ∃ f fd k, X.mg x = some (.ref f) ∧ PySem.W.keepIn X.K (.ref f) = true ∧ Binds X.K fd ps [] ∧ RoomZ T.hot (k + 1) X.A ∧ ∀ ms : List PM, ms.length = ps.length → GFn X.prog X.w X.K X.mg X.base T.hot k f fd ps (spF C.K C.phi i ms)
  gls : ∀ x d, (x, d) ∈ T.gls → ∃ v u, X.mg x = some u ∧ RelV v u ∧ ∀ F, Rf C.K F v d
  bls : ∀ x ∈ T.bls, X.mg x = none
  kfns : ∀ x ks i pm n, (x, ks, i, pm, n) ∈ T.kfns → ∃ f fd ps k, X.mg x = some (.ref f) ∧ PySem.W.keepIn X.K (.ref f) = true ∧ KBinds X.K fd ps ks (gK Value .none n ks.length pm) (gK V .non n ks.length pm) ∧ RoomZ T.hot (k + 1) X.A ∧ GFn X.prog X.w X.K X.mg X.base T.hot k f fd ps (spF C.K C.phi i (pm.map fun _ => .val))
  fnx : T.co = true → ∀ x, X.fn x = true
  hfn : ∀ x i ps, (x, i, ps) ∈ T.hfn → ∃ f fd k, X.mg x = some (.ref f) ∧ PySem.W.keepIn X.K (.ref f) = true ∧ Binds X.K fd ps [] ∧ RoomZ true (k + 1) X.A ∧ ∀ ms : List PM, ms.length = ps.length → GFn X.prog X.w X.K X.mg X.base true k f fd ps (spF C.K C.phi i ms)
  ecs : ∀ k ∈ T.ecs, k < 9 ∧ X.mg (clsNm k) = some (.ref (caK X.K k)) ∧ PySem.W.nsIn X.K mainGlobals (clsNm k) = some (some (.ref (caK X.K k))) ∧ ((k ≠ 0 → XcF X.prog.main.file X.K (caK X.K k) ∧ XcK X.K k) ∧ (k = 0 → ZcK X.K T.ecs)) ∧ XcG X.prog X.K
  rm : ∃ k, RoomZ T.hot (k + 1) X.A
  stk : T.co = true → X.stack = X.env :: X.outer ∧ X.env.frame = some X.env.locals

/-! ### little facts about expressions -/
def nstar : Expr → Bool
  | .Starred .. => false
  | _ => true
def nset : Expr → Bool
  | .Set .. => false
  | _ => true
def nsl : Expr → Bool
  | .Slice .. => false
  | _ => true
def ncall : Expr → Bool
  | .Call .. => false
  | _ => true
def ncomp : Expr → Bool
  | .ListComp .. => false
  | .SetComp .. => false
  | .DictComp .. => false
  | _ => true
def plainX : Expr → Bool
  | .UnaryOp .. => false
  | .BoolOp .. => false
  | .IfExp .. => false
  | .Compare .. => false
  | _ => true
theorem star_cons {e : Expr} {es : List Expr} {env : PySem.Env} (h : nstar e = true) : starEach (e :: es) env = (false, eval e env) :: starEach es env := by
  cases e <;> first | rfl | (simp [nstar] at h)
theorem star_plain {env : PySem.Env} {pos : Pos} : ∀ {es : List Expr}, es.all nstar = true → (backTo pos (starEach es env)).any (·.1) = false
  | [], _ => rfl
  | e :: es, h => by
    simp only [List.all_cons, Bool.and_eq_true] at h
    rw [star_cons h.1]
    show (false || (backTo pos (starEach es env)).any (·.1)) = false
    rw [star_plain h.2]; rfl
theorem assign_cons {e : Expr} {es : List Expr} {env : PySem.Env} (h : nstar e = true) : assignEach (e :: es) env = (false, assign e env) :: assignEach es env := by
  cases e <;> first | rfl | (simp [nstar] at h)
theorem assign_len {env : PySem.Env} : ∀ {es : List Expr}, es.all nstar = true → (assignEach es env).length = es.length ∧ (assignEach es env).findIdx? (·.1) = none
  | [], _ => ⟨rfl, rfl⟩
  | e :: es, h => by
    simp only [List.all_cons, Bool.and_eq_true] at h
    obtain ⟨a, b⟩ := assign_len (env := env) h.2
    rw [assign_cons h.1]
    refine ⟨by simp [a], ?_⟩
    rw [List.findIdx?_cons]
    simp [b]
theorem plain_ix {b : Expr} (h : nsl b = true) : PlainIx b := by
  intro o i
  cases b <;> first | rfl | (simp [nsl] at h)
theorem mark_no {op : CmpOp} {b : Expr} (h : nset b = true) : behindInMarks op b = false := by
  cases b <;> first | rfl | (simp [nset] at h)
theorem fold_no {e : Expr} {env : PySem.Env} (h : nset e = true) : ∀ x, foldedSetIterable e env x = pure x := by
  intro x
  cases e <;> first | rfl | (simp [nset] at h)
theorem base_no {o : Expr} {f : Str} {env : PySem.Env} (h : ncall o = true) : attributeBase o f env (eval o env) = eval o env := by
  cases o <;> first | rfl | (simp [ncall] at h)
theorem swap_no {v : Expr} {t : Option Expr} {l : Nat} {env : PySem.Env} (h : ncomp v = true) : swapsWith v t l env = pure false := by
  cases v <;> first | rfl | (simp [ncomp] at h)
theorem true_plain {e : Expr} {env : PySem.Env} (h : plainX e = true) : ∀ whole, isTrue e env whole = (do let v ← whole; standAt e.pos; holding [v] (truthy v)) := by
  intro w
  cases e <;> first | rfl | (simp [plainX] at h)
theorem pw_bool {X : Cx} {op : BoolOp} {es : List Expr} {pos : Pos} {t : TT} (h : PT X (.BoolOp op es pos) t) : PW X (.BoolOp op es pos) t := ⟨fun whole => h.run⟩
theorem lastM {op op' : CmpOp} {b c : Expr} (h : nset c = true) : lastMarks [op, op'] [b, c] = false := by
  show behindInMarks op' c = false
  exact mark_no h

mutual
/-- the same data -/
def eqD : D → D → Bool
  | .non, .non => true
  | .bl a, .bl b => a == b
  | .int i, .int j => decide (i = j)
  | .str x, .str y => decide (x = y)
  | .tup m xs, .tup n ys => (m == n) && eqDL xs ys
  | .lst m xs, .lst n ys => (m == n) && eqDL xs ys
  | _, _ => false
def eqDL : List D → List D → Bool
  | [], [] => true
  | x :: xs, y :: ys => eqD x y && eqDL xs ys
  | _, _ => false
end
mutual
theorem eqD_eq : ∀ {a b : D}, eqD a b = true → a = b
  | .non, b, h => by cases b <;> first | rfl | (simp [eqD] at h)
  | .bl a, b, h => by cases b <;> simp [eqD] at h; rw [h]
  | .int a, b, h => by cases b <;> simp [eqD] at h; rw [h]
  | .str a, b, h => by cases b <;> simp [eqD] at h; rw [h]
  | .tup m xs, b, h => by
    cases b <;> simp [eqD] at h
    rw [h.1, eqDL_eq h.2]
  | .lst m xs, b, h => by
    cases b <;> simp [eqD] at h
    rw [h.1, eqDL_eq h.2]
  | .dic m xs, b, h => by cases b <;> simp [eqD] at h
  | .obj m c xs, b, h => by cases b <;> simp [eqD] at h
theorem eqDL_eq : ∀ {a b : List D}, eqDL a b = true → a = b
  | [], b, h => by cases b <;> first | rfl | (simp [eqDL] at h)
  | x :: xs, b, h => by
    cases b <;> simp [eqDL] at h
    rw [eqD_eq h.1, eqDL_eq h.2]
end

/-! ### matching -/
def vis (sc : Scope) (x : Str) : Bool := match sc.names.lookup x with
  | some .local => true
  | some .cell => true
  | some .free => true
  | _ => false
def dbg : Str := "__debug__"
def cdi : Str := "__classdict__"
def glb (sc : Scope) (x : Str) : Bool := (match sc.names.lookup x with
  | some .globalImplicit => true
  | _ => false) && x != dbg && x != "__name__"
def okV (T : Tb) (i : Nat) (x : Expr) : Bool := match x with
  | .Name s _ => decide (T.N[i]? = some s) && vis T.sc s && s != dbg && s != cdi
  | _ => false
def matC (d : D) (x : Expr) : Bool := match x with
  | .Constant c _ _ => (match c, d with
    | .int i, .int j => decide (i = j)
    | .bool a, .bl b => a == b
    | .none, .non => true
    | .str s, .str l => decide (s.cps.toList = l)
    | _, _ => false)
  | _ => false
def locOk (T : Tb) (s : Str) : Bool := match T.sc.names.lookup s with
  | some .local => true
  | some .cell => T.co
  | _ => false
mutual
def matT (T : Tb) : LT → Expr → Bool
  | .nm i, x => (match x with
    | .Name s _ => decide (T.N[i]? = some s) && locOk T s
    | _ => false)
  | .nil, _ => false
  | .cons a r, x => !T.hot && (match x with
    | .Tuple es _ _ => matTs T (.cons a r) es
    | _ => false)
def matTs (T : Tb) : LT → List Expr → Bool
  | .nil, es => es.isEmpty
  | .cons a r, es => (match es with
    | e :: es => nstar e && matT T a e && matTs T r es
    | [] => false)
  | .nm _, _ => false
end
def gOfs (K : PySem.W.Frag) (gOf : LT → TG) : LT → TGs
  | .cons a r => gCons (gOf a) (gOfs K gOf r)
  | _ => gNil
mutual
def gOf (K : PySem.W.Frag) : LT → TG
  | .nm i => gName i
  | .nil => gName 0
  | .cons a r => gSeq K (lenT (.cons a r)) (gCons (gOf K a) (gsOf K r))
def gsOf (K : PySem.W.Frag) : LT → TGs
  | .nm i => gNil
  | .nil => gNil
  | .cons a r => gCons (gOf K a) (gsOf K r)
end
theorem loc_ok {X : Cx} {C : Cz} {T : Tb} (G : Good X C T) {s : Str} (h : locOk T s = true) : Loc X.env.scope s ∧ (X.fn s = true ∨ X.env.scope.names.lookup s = some .local) := by
  unfold locOk at h
  rw [G.sc]
  split at h
  · exact ⟨.inl ‹_›, .inr ‹_›⟩
  · exact ⟨.inr ‹_›, .inl (G.fnx h s)⟩
  · cases h
mutual
theorem simT {X : Cx} {C : Cz} {T : Tb} (G : Good X C T) : ∀ (t : LT) (x : Expr), matT T t x = true → PG X x (gOf C.K t) ∧ CompT C t (gOf C.K t)
  | .nm i, x, h => by
    unfold matT at h
    split at h
    · simp only [Bool.and_eq_true, decide_eq_true_eq] at h
      unfold gOf
      refine ⟨pg_name (by rw [G.N]; exact G.nd) (by rw [G.N]; exact h.1) (loc_ok G h.2).1 (loc_ok G h.2).2, ct_nm⟩
    · cases h
  | .nil, x, h => by simp [matT] at h
  | .cons a r, x, h => by
    unfold matT at h
    simp only [Bool.and_eq_true, Bool.not_eq_true'] at h
    obtain ⟨hh, h⟩ := h
    split at h
    · rename_i es k p
      obtain ⟨a1, a2, a3, a4⟩ := simTs G (.cons a r) es h
      unfold gOf
      unfold gsOf at a1 a2
      obtain ⟨l1, l2⟩ := assign_len (env := X.env) a4
      refine ⟨?_, ct_tup a2⟩
      rw [← G.K] at a1 ⊢
      exact pg_seq (G.calm hh) a1 (by rw [l1]; exact a3) l2
    · cases h
theorem simTs {X : Cx} {C : Cz} {T : Tb} (G : Good X C T) : ∀ (t : LT) (es : List Expr), matTs T t es = true → PGs X es (gsOf C.K t) ∧ CompTs C t (gsOf C.K t) ∧ es.length = lenT t ∧ es.all nstar = true
  | .nm i, es, h => by simp [matTs] at h
  | .nil, es, h => by
    unfold matTs at h
    cases es with
    | nil => unfold gsOf; exact ⟨pgs_nil, cts_nil, rfl, rfl⟩
    | cons _ _ => simp at h
  | .cons a r, es, h => by
    unfold matTs at h
    cases es with
    | nil => simp at h
    | cons e es =>
      simp only [Bool.and_eq_true] at h
      obtain ⟨a1, a2⟩ := simT G a e h.1.2
      obtain ⟨b1, b2, b3, b4⟩ := simTs G r es h.2
      unfold gsOf
      refine ⟨pgs_cons a1 b1 ?_, cts_cons a2 b2, by simp [lenT, b3], by simp [h.1.1, b4]⟩
      rw [assign_cons h.1.1]; rfl
end

/-- a test is read by its parts -/
def tst : LE → Expr → Bool
  | .an a b, x => (match x with
    | .BoolOp _ (y :: z :: r) pos => tst a y && (match r with
      | [] => tst b z
      | _ => tst b (.BoolOp .And (z :: r) pos))
    | _ => false)
  | .orr a b, x => (match x with
    | .BoolOp _ (y :: z :: r) pos => tst a y && (match r with
      | [] => tst b z
      | _ => tst b (.BoolOp .Or (z :: r) pos))
    | _ => false)
  | .nt a, x => (match x with
    | .UnaryOp _ e _ => tst a e
    | _ => false)
  | .cmp _ _ _, x => true
  | .chn _ _ _ _ _, x => true
  | _, x => plainX x
def isSl : LP → Bool
  | .s _ => true
  | _ => false
def okApos (a c : Pos) : Bool := a.endLine == c.line
def sIsi : Str := "isinstance"
def sVE : Str := "ValueError"
def ownN (T : Tb) (own : List Nat) : List (Str × Nat) := own.map fun i => (T.N.getD i dbg, i)
def kwNames (kws : List Keyword) : List Str := kws.filterMap fun k => k.arg
/-- names of classes of exceptions -/
def csB (T : Tb) : List Nat → List Expr → Bool
  | [], [] => true
  | k :: ks, .Name c _ :: es => decide (c = clsNm k) && glb T.sc c && decide (k ∈ T.ecs) && decide (k ≠ 0) && csB T ks es
  | _, _ => false
mutual
def matE : LE → Tb → Expr → Bool
  | .c d, T, x => matC d x && scalD d
  | .v i, T, x => okV T i x
  | .bw i, T, x => okV T i x
  | .mv i, T, x => okV T i x
  | .vz i, T, x => okV T i x
  | .gl _ d, T, x => (match x with
    | .Name s _ => glb T.sc s && (match T.gls.lookup s with
      | some d' => eqD d d'
      | none => false)
    | _ => false)
  | .fz a, T, x => !isB a && matE a T x
  | .rd a, T, x => isB a && matE a T x
  | .bin o a b, T, x => (match x with
    | .BinOp l op r _ => decide (op = opB o) && (!isB a || pureE b) && matE a T l && matE b T r
    | _ => false)
  | .neg a, T, x => (match x with
    | .UnaryOp op e _ => decide (op = .USub) && matE a T e
    | _ => false)
  | .cmp o a b, T, x => (match x with
    | .Compare l [op] [r] _ => decide (op = opC o) && nset r && (!isB a || pureE b) && matE a T l && matE b T r
    | _ => false)
  | .chn o p a b c, T, x => (match x with
    | .Compare l [op, op'] [r, r'] _ => decide (op = opC o) && decide (op' = opC p) && nset r' && !isB a && !isB b && matE a T l && matE b T r && matE c T r'
    | _ => false)
  | .an a b, T, x => (match x with
    | .BoolOp op (y :: z :: r) pos => decide (op = .And) && !isB b && matE a T y && (match r with
      | [] => matE b T z
      | _ => matE b T (.BoolOp .And (z :: r) pos))
    | _ => false)
  | .orv a b, T, x => (match x with
    | .BoolOp op [y, z] _ => decide (op = .Or) && !isB b && matE a T y && matE b T z
    | _ => false)
  | .orr a b, T, x => (match x with
    | .BoolOp op (y :: z :: r) pos => decide (op = .Or) && !isB b && matE a T y && (match r with
      | [] => matE b T z
      | _ => matE b T (.BoolOp .Or (z :: r) pos))
    | _ => false)
  | .nt a, T, x => (match x with
    | .UnaryOp op e _ => decide (op = .Not) && matE a T e
    | _ => false)
  | .ite c a b, T, x => (match x with
    | .IfExp t u w _ => !isB a && !isB b && tst c t && matE c T t && matE a T u && matE b T w
    | _ => false)
  | .tup es, T, x => (match x with
    | .Tuple l _ _ => noB es && matL es T l
    | _ => false)
  | .lst es, T, x => (match x with
    | .List l _ => noB es && matL es T l
    | _ => false)
  | .ix a b, T, x => (match x with
    | .Subscript l s _ => nsl s && (!isB a || pureE b) && matE a T l && matE b T s
    | _ => false)
  | .sl a lo hi, T, x => (match x with
    | .Subscript l (.Slice u w none _) _ => !isB a && matE a T l && matO lo T u && matO hi T w
    | _ => false)
  | .mkx c kw a, T, x => decide (c ≠ 0) && decide (c ∈ T.ecs) && !T.hot && (match kw, x with
    | true, .Call (.Name s _) [] [⟨some n, e, _⟩] _ => decide (s = clsNm c) && glb T.sc s && decide (n = sValue) && matE a T e
    | false, .Call (.Name s _) [e] [] _ => decide (s = clsNm c) && glb T.sc s && nstar e && matE a T e
    | _, _ => false)
  | .isz ks, T, x => (match x with
    | .Call (.Name s _) [.Call (.Name n _) [] [] _, .Tuple es _ _] [] _ => decide (s = sIsi) && glb T.sc s && decide (s ∈ T.bls) && decide (n = clsNm 0) && glb T.sc n && decide (0 ∈ T.ecs) && decide (ks.length ≤ 20) && csB T ks es
    | _ => false)
  | .isx a k, T, x => (match x with
    | .Call (.Name s _) [e, .Name c _] [] _ => decide (s = sIsi) && glb T.sc s && decide (s ∈ T.bls) && nstar e && matE a T e && glb T.sc c && (if k = 100 then decide (c = sVE) && decide (c ∈ T.bls) && !T.ecs.isEmpty else decide (c = clsNm k) && decide (k ∈ T.ecs))
    | _ => false)
  | .lm cnt d a, T, x => (match x with
    | .Call (.Attribute o at' ap) [e] [] cp => decide (at' = lmN cnt) && okApos ap cp && nstar e && ncall o && matC d e && scalD d && matE a T o
    | _ => false)
  | .xv a, T, x => (match x with
    | .Attribute e f _ => decide (f = sValue) && ncall e && matE a T e
    | _ => false)
  | .bi f es, T, x => !T.hot && (match x with
    | .Call (.Name s _) (y :: r) [] _ => decide (s = (biName f).1) && glb T.sc s && decide (s ∈ T.bls) && okB es && matL es T (y :: r)
    | _ => false)
  | .call f es, T, x => (match x with
    | .Call (.Name s _) (y :: r) [] _ => glb T.sc s && (match T.fns.lookup s with
      | some (i, ps) => decide (i = f) && decide (ps.length = (y :: r).length)
      | none => false) && (y :: r).all nstar && matA es T (y :: r)
    | _ => false)
  | .callk f es pm ks, T, x => (match x with
    | .Call (.Name s _) args kws _ => glb T.sc s && decide ((s, kwNames kws, f, pm, lenL es) ∈ T.kfns) && kws.all (fun k => k.arg.isSome) && !kws.isEmpty && noB es && noB ks && matL es T args && matL ks T (kws.map fun k => k.value)
    | _ => false)
  | .app p a, T, x => (match x with
    | .Call (.Attribute o at' ap) [e] [] cp => decide (at' = ("append" : Str)) && okApos ap cp && !isB a && (isSl p || pureE a) && nstar e && ncall o && matP p T o && matE a T e
    | _ => false)
  | .pop p, T, x => (match x with
    | .Call (.Attribute o at' ap) [] [] cp => decide (at' = ("pop" : Str)) && okApos ap cp && ncall o && matP p T o
    | _ => false)
  | .popi p a, T, x => (match x with
    | .Call (.Attribute o at' ap) [e] [] cp => decide (at' = ("pop" : Str)) && okApos ap cp && pureE a && nstar e && ncall o && matP p T o && matE a T e
    | _ => false)
  | .lc own s t cd a, T, x => !T.hot && (match x with
    | .ListComp elt [⟨tg, iter, ifs, 0⟩] scope _ => blkC T.N T.sc scope (ownN T own) && nset iter && !isB a && (slT t).all (fun i => decide (i ∈ own)) && matI s T iter tg &&
        matT { T with sc := relS scope T.sc, co := false } t tg && matCd cd { T with sc := relS scope T.sc, co := false } ifs && matE a { T with sc := relS scope T.sc, co := false } elt
    | _ => false)
  | .rev a, T, x => (match x with
    | .Subscript l (.Slice none none (some (.UnaryOp op (.Constant (.int i) _ _) _)) _) _ => decide (op = .USub) && decide (i = 1) && matE a T l
    | _ => false)
  | .dlk ps a, T, x => (match x with
    | .Subscript (.Dict ks vs _) i _ => cKs ps ks vs && !ps.isEmpty && decide (ps.length ≤ 15) && nsl i && !isB a && matE a T i
    | _ => false)
  | .dsp ks es, T, x => (match x with
    | .Dict kes l _ => cKes ks kes && noB es && matL es T l && decide (ks.length = l.length) && decide (ks ≠ []) && decide (ks.length ≤ 15)
    | _ => false)
  | .tdd a b, T, x => (match x with
    | .Dict [some k] [v] _ => !isB a && !isB b && matE a T k && matE b T v
    | _ => false)
  | .mn4 a b, T, x => !T.hot && (match x with
    | .Call (.Name s _) [.Starred u _, .Starred v _] [] _ => decide (s = "min") && glb T.sc s && decide (s ∈ T.bls) && !isB a && !isB b && matE a T u && matE b T v
    | _ => false)
  | .fs3 a b c, T, x => (match x with
    | .JoinedStr [.FormattedValue x1 i1 none _, .FormattedValue x2 i2 none _, .FormattedValue x3 i3 none _] _ => decide (i1 = -1) && decide (i2 = -1) && decide (i3 = -1) && !isB a && !isB b && !isB c && matE a T x1 && matE b T x2 && matE c T x3
    | _ => false)
  | .bm m a es, T, x => (match x with
    | .Call (.Attribute o at' ap) [e] [] cp => decide (at' = bmName m) && okApos ap cp && nstar e && ncall o && okB es && matE a T o && matL es T [e]
    | _ => false)
  | .mm m p es, T, x => (match x with
    | .Call (.Attribute o at' ap) (y :: r) [] cp => decide (at' = mmName m) && okApos ap cp && (y :: r).all nstar && decide ((y :: r).length < 20) && ncall o && noB es && (isSl p || pureL es) && matP p T o && matL es T (y :: r)
    | _ => false)
  | .lss es, T, x => (match x with
    | .List l _ => matQ es T l
    | _ => false)
def matQ : LQ → Tb → List Expr → Bool
  | .nil, T, l => l.isEmpty
  | .cons a r, T, l => (match l with
    | e :: l => nstar e && !isB a && matE a T e && matQ r T l
    | [] => false)
  | .star a r, T, l => (match l with
    | .Starred e _ :: l => matE a T e && matQ r T l
    | _ => false)
def matL : LL → Tb → List Expr → Bool
  | .nil, T, l => l.isEmpty
  | .cons a r, T, l => (match l with
    | e :: l => nstar e && matE a T e && matL r T l
    | [] => false)
def matA : LA → Tb → List Expr → Bool
  | .nil, T, l => l.isEmpty
  | .e a r, T, l => (match l with
    | e :: l => !isB a && matE a T e && matA r T l
    | [] => false)
  | .io i r, T, l => (match l with
    | e :: l => okV T i e && matA r T l
    | [] => false)
  | .bo i r, T, l => (match l with
    | e :: l => okV T i e && matA r T l
    | [] => false)
def matO : LO → Tb → Option Expr → Bool
  | .no, T, x => x.isNone
  | .so a, T, x => (match x with
    | some e => matE a T e
    | none => false)
def matCd : LO → Tb → List Expr → Bool
  | .no, T, x => x.isEmpty
  | .so a, T, x => (match x with
    | [e] => tst a e && matE a T e
    | _ => false)
def matI : LI → Tb → Expr → Expr → Bool
  | .val a, T, x, tg => !isB a && matE a T x
  | .rng1 a, T, x, tg => (match x with
    | .Call (.Name s _) [e] [] _ => decide (s = ("range" : Str)) && glb T.sc s && decide (s ∈ T.bls) && nstar e && matE a T e
    | _ => false)
  | .rng2 a b, T, x, tg => (match x with
    | .Call (.Name s _) [e, e'] [] _ => decide (s = ("range" : Str)) && glb T.sc s && decide (s ∈ T.bls) && nstar e && nstar e' && (!isB a || pureE b) && matE a T e && matE b T e'
    | _ => false)
  | .enu a, T, x, tg => (match x, tg with
    | .Call (.Name s _) [e] [] _, .Tuple _ _ _ => decide (s = ("enumerate" : Str)) && glb T.sc s && decide (s ∈ T.bls) && nstar e && !isB a && matE a T e
    | _, _ => false)
  | .zip a b, T, x, tg => (match x, tg with
    | .Call (.Name s _) [e, e'] [] _, .Tuple _ _ _ => decide (s = ("zip" : Str)) && glb T.sc s && decide (s ∈ T.bls) && nstar e && nstar e' && !isB a && !isB b && matE a T e && matE b T e'
    | _, _ => false)
def matP : LP → Tb → Expr → Bool
  | .s i, T, x => okV T i x
  | .ix p a, T, x => (match x with
    | .Subscript l s _ => nsl s && pureE a && matP p T l && matE a T s
    | _ => false)
  | .fl p f, T, x => false
end

theorem lookup_mem {α : Type} : ∀ {l : List (Str × α)} {x : Str} {a : α}, l.lookup x = some a → (x, a) ∈ l
  | [], _, _, h => by simp at h
  | (y, b) :: l, x, a, h => by
    simp only [List.lookup] at h
    split at h
    · rename_i e
      have e : x = y := by simpa using e
      simp only [Option.some.injEq] at h
      subst e h
      exact List.mem_cons_self ..
    · exact List.mem_cons_of_mem _ (lookup_mem h)
theorem vis_of {sc : Scope} {x : Str} (h : vis sc x = true) : Vis sc x := by
  unfold vis at h
  split at h
  · exact .inl ‹_›
  · exact .inr (.inl ‹_›)
  · exact .inr (.inr ‹_›)
  · cases h
theorem glb_of {X : Cx} {sc : Scope} (e : X.env.scope = sc) {x : Str} (h : glb sc x = true) : Gl X x ∧ x ≠ "__name__" ∧ (x == ("__debug__" : Str)) = false := by
  unfold glb at h
  simp only [Bool.and_eq_true, bne_iff_ne, ne_eq] at h
  obtain ⟨⟨h1, h2⟩, h3⟩ := h
  refine ⟨?_, h3, by simpa [dbg] using h2⟩
  split at h1
  · rw [← e] at *
    assumption
  · cases h1
section
variable {X : Cx} {C : Cz} {T : Tb}
theorem simV (G : Good X C T) {i : Nat} {x : Expr} (h : okV T i x = true) : PE X x (tVar i) ∧ plainX x = true ∧ ncall x = true ∧ nstar x = true := by
  unfold okV at h
  split at h
  · simp only [Bool.and_eq_true, decide_eq_true_eq, bne_iff_ne, ne_eq] at h
    obtain ⟨⟨⟨h1, h2⟩, h3⟩, h4⟩ := h
    exact ⟨pe_var (by rw [G.N]; exact h1) (by rw [G.sc]; exact vis_of h2) (by simpa [dbg] using h3) (by simpa [cdi] using h4), rfl, rfl, rfl⟩
  · cases h
theorem simC {d : D} {x : Expr} (h : matC d x = true) : ∃ v, PE X x (tC v) ∧ Rf C.K (fun _ => none) v d := by
  unfold matC at h
  split at h
  · rename_i c k p
    split at h
    · simp only [decide_eq_true_eq] at h; subst h
      exact ⟨_, pe_int, .int _⟩
    · simp only [beq_iff_eq] at h; subst h
      exact ⟨_, pe_bl, .bl _⟩
    · exact ⟨_, pe_non, .non⟩
    · rename_i s l
      simp only [decide_eq_true_eq] at h; subst h
      refine ⟨_, pe_str, ?_⟩
      have : (V.str s) = stV s.cps.toList := by unfold stV; simp
      rw [this]; exact .str _
    · cases h
  · cases h
/-- what is promised of an expression -/
def SE (X : Cx) (C : Cz) (a : LE) (x : Expr) : Prop := (∃ t, PE X x t ∧ CE1 C a t) ∧ (tst a x = true → ∃ t, PT X x t ∧ CT1 C a t)
theorem se_of {a : LE} {x : Expr} {t : TE} (h : PE X x t) (k : CE1 C a t) (ht : tst a x = true → plainX x = true) : SE X C a x :=
  ⟨⟨t, h, k⟩, fun z => ⟨tB t, pt_val h (true_plain (ht z)), ct_B k⟩⟩
theorem lst2 {α : Type} {l : List α} (h : l.isEmpty = true) : l = [] := by cases l <;> first | rfl | simp at h
end
theorem bi_boot (f : Bi) : bootBuiltins (biName f).1 = some (biName f).2 := by
  cases f
  · exact boot_len
  · exact PyProof.Rows.boot_abs
  · exact PyProof.Rows.boot_min
  · exact PyProof.Rows.boot_max
  · exact boot_int
  · exact boot_list
  · exact boot_tuple
  · exact PyProof.Rows.boot_repr
  · exact PyProof.Rows.boot_min
  · exact PyProof.Rows.boot_max
  · exact PyProof.Rows.boot_min
  · exact PyProof.Rows.boot_max
  · exact PyProof.Rows.boot_all
  · exact PyProof.Rows.boot_sum
  · exact PyProof.Rows.boot_str
theorem bi_kind (f : Bi) : (∃ id, (biName f).2 = .builtin id) ∨ ∃ t, (biName f).2 = .type t := by
  cases f <;> first | exact .inl ⟨_, rfl⟩ | exact .inr ⟨_, rfl⟩
theorem Good.blk {X : Cx} {C : Cz} {T : Tb} (G : Good X C T) {scope : Scope} (s : Shared) (H : Hp) (A : Addr) (cl : List (Str × Addr)) (fp : List Addr) :
    Good (X.blk s H scope (compEnvC scope cl A X.env) fp) C.nox { T with sc := relS scope T.sc, co := false } where
  N := G.N
  sc := by
    show (compEnvC scope cl A X.env).scope = relS scope T.sc
    rw [← G.sc]; rfl
  K := G.K
  nd := G.nd
  calm := G.calm
  hfn := G.hfn
  ecs := G.ecs
  rm := G.rm
  stk := fun h => by cases h
  gd := G.gd
  un := G.un
  tk := fun u s' ⟨_, _, _, _, _, _, _, _, _, _, _, _, _, _, _, _, w⟩ => w.elim
  fns := G.fns
  gls := G.gls
  bls := G.bls
  kfns := G.kfns
  fnx := fun h => by cases h
end Z

set_option Elab.async false
set_option linter.all false
set_option maxRecDepth 100000
set_option maxHeartbeats 8000000
/-! Z14: a term that stands for an expression computes it. -/
namespace Z
open PySem L2 PyProof.Rows
open ZZ (iZipB pi_zipB)

theorem bnot {b : Bool} (h : (!b) = true) : b = false := by cases b <;> simp at h ⊢
theorem mem_fns {T : Tb} {s : Str} {i : Nat} {ps : List Str} (h : T.fns.lookup s = some (i, ps)) : (s, i, ps) ∈ T.fns := lookup_mem h
theorem tags_len {C : Cz} : ∀ {es : LA} {T : Tb} {l : List Expr}, matA es T l = true → (tags es).length = l.length
  | .nil, T, l, h => by
    unfold matA at h
    cases l <;> first | rfl | simp at h
  | .e a r, T, l, h => by
    unfold matA at h
    cases l with
    | nil => simp at h
    | cons e l =>
      simp only [Bool.and_eq_true] at h
      simp [tags, tags_len (C := C) h.2]
  | .io i r, T, l, h => by
    unfold matA at h
    cases l with
    | nil => simp at h
    | cons e l =>
      simp only [Bool.and_eq_true] at h
      simp [tags, tags_len (C := C) h.2]
  | .bo i r, T, l, h => by
    unfold matA at h
    cases l with
    | nil => simp at h
    | cons e l =>
      simp only [Bool.and_eq_true] at h
      simp [tags, tags_len (C := C) h.2]
theorem star_matL : ∀ {es : LL} {T : Tb} {l : List Expr}, matL es T l = true → l.all nstar = true
  | .nil, T, l, h => by
    unfold matL at h
    cases l <;> first | rfl | simp at h
  | .cons a r, T, l, h => by
    unfold matL at h
    cases l with
    | nil => simp at h
    | cons e l =>
      simp only [Bool.and_eq_true] at h
      simp [h.1.1, star_matL h.2]
theorem few1 {e : Expr} {pos : Pos} {env : PySem.Env} (h : nstar e = true) : ((backTo pos (starEach [e] env)).all (fun x => !x.1) && (backToKw pos (keywordEach [] env)).all (fun x => x.1.isSome)
      && decide (([e] : List Expr).length + ([] : List Keyword).length + (if ([] : List Keyword).isEmpty then 0 else 1) < 30)) = true := by
  rw [star_cons h]; rfl
theorem fewN {es : List Expr} {pos : Pos} {env : PySem.Env} (h : es.all nstar = true) (hn : es.length < 20) : ((backTo pos (starEach es env)).all (fun x => !x.1) && (backToKw pos (keywordEach [] env)).all (fun x => x.1.isSome)
      && decide (es.length + ([] : List Keyword).length + (if ([] : List Keyword).isEmpty then 0 else 1) < 30)) = true := by
  have e1 : ∀ {es : List Expr}, es.all nstar = true → (backTo pos (starEach es env)).all (fun x => !x.1) = true := fun {es} => by
    induction es with
    | nil => intro _; rfl
    | cons e es ih =>
      intro h
      simp only [List.all_cons, Bool.and_eq_true] at h
      rw [star_cons h.1]
      show (!false && (backTo pos (starEach es env)).all (fun x => !x.1)) = true
      rw [ih h.2]; rfl
  rw [e1 h]
  have e2 : es.length + ([] : List Keyword).length + (if ([] : List Keyword).isEmpty then 0 else 1) < 30 := by
    show es.length + 0 + 0 < 30
    omega
  rw [decide_eq_true e2]; rfl
theorem own_map (T : Tb) (own : List Nat) : (ownN T own).map (·.2) = own := by
  unfold ownN
  induction own with
  | nil => rfl
  | cons i r ih => simp only [List.map_cons]; rw [ih]
theorem matL_len : ∀ {es : LL} {T : Tb} {l : List Expr}, matL es T l = true → lenL es = l.length
  | .nil, T, l, h => by
    unfold matL at h
    cases l <;> first | rfl | simp at h
  | .cons a r, T, l, h => by
    unfold matL at h
    cases l with
    | nil => simp at h
    | cons e l =>
      simp only [Bool.and_eq_true] at h
      simp [lenL, matL_len h.2]
theorem kw_len : ∀ {kws : List Keyword}, kws.all (fun k => k.arg.isSome) = true → (kwNames kws).length = kws.length
  | [], _ => rfl
  | ⟨none, _, _⟩ :: r, h => by simp at h
  | ⟨some n, v, p⟩ :: r, h => by
    simp only [List.all_cons, Bool.and_eq_true] at h
    show (n :: kwNames r).length = _
    simp [kw_len h.2]
theorem kw_ok {pos : Pos} {env : PySem.Env} : ∀ {kws : List Keyword}, kws.all (fun k => k.arg.isSome) = true → (backToKw pos (keywordEach kws env)).all (·.1.isSome) = true ∧ (backToKw pos (keywordEach kws env)).filterMap (·.1) = kwNames kws ∧ (backToKw pos (keywordEach kws env)).any (·.1.isNone) = false
  | [], _ => ⟨rfl, rfl, rfl⟩
  | ⟨none, _, _⟩ :: r, h => by simp at h
  | ⟨some n, v, p⟩ :: r, h => by
    simp only [List.all_cons, Bool.and_eq_true] at h
    obtain ⟨a, b, c⟩ := kw_ok (pos := pos) (env := env) h.2
    refine ⟨?_, ?_, ?_⟩
    · show (true && _) = true
      rw [Bool.true_and]; exact a
    · exact congrArg (List.cons n) b
    · show (false || _) = false
      rw [Bool.false_or]; exact c
theorem nosl_of {b : Expr} (h : nsl b = true) : NoSl b := by
  intro o i
  cases b <;> first | rfl | (simp [nsl] at h)
theorem cs_of {X : Cx} {C : Cz} {T : Tb} (G : Good X C T) : ∀ {ks : List Nat} {es : List Expr}, csB T ks es = true → (∀ k ∈ ks, k ∈ T.ecs ∧ k ≠ 0) ∧ PA X es (tCs C.K ks)
  | [], [], _ => ⟨fun k hk => absurd hk List.not_mem_nil, pa_nil⟩
  | [], _ :: _, h => by unfold csB at h; cases h
  | _ :: _, [], h => by unfold csB at h; cases h
  | k :: ks, e :: es, h => by
    unfold csB at h
    split at h
    · rename_i h1 h2; cases h1
    · rename_i k' ks' c p es' h1 h2
      cases h1; cases h2
      simp only [Bool.and_eq_true, decide_eq_true_eq] at h
      obtain ⟨⟨⟨⟨rfl, hg⟩, hm⟩, hz⟩, hr⟩ := h
      obtain ⟨c1, c2, c3⟩ := glb_of G.sc hg
      obtain ⟨k9, m1, m2, m3, xg⟩ := G.ecs k hm
      obtain ⟨a1, a2⟩ := cs_of G hr
      refine ⟨fun q hq => ?_, ?_⟩
      · rcases List.mem_cons.mp hq with rfl | z
        · exact ⟨hm, hz⟩
        · exact a1 q z
      · have pn : PE X (.Name (clsNm k) p) (tC (.ref (caK C.K k))) := by
          rw [← G.K]
          exact pe_glob c1 m1 rfl c3
        exact pa_cons pn a2 rfl
    · cases h
mutual
theorem simE : ∀ (a : LE) {X : Cx} {C : Cz} {T : Tb} (x : Expr), Good X C T → matE a T x = true → SE X C a x
  | .c d, X, C, T, x, G, h => by
    unfold matE at h
    simp only [Bool.and_eq_true] at h
    obtain ⟨v, h1, h2⟩ := simC (X := X) (C := C) h.1
    refine se_of h1 (comp_c h.2 h2) fun z => by simpa only [tst] using z
  | .v i, X, C, T, x, G, h => by
    unfold matE at h
    obtain ⟨h1, h2, _⟩ := simV G h
    exact se_of h1 comp_v fun _ => h2
  | .bw i, X, C, T, x, G, h => by
    unfold matE at h
    obtain ⟨h1, h2, _⟩ := simV G h
    exact se_of h1 comp_bw fun _ => h2
  | .mv i, X, C, T, x, G, h => by
    unfold matE at h
    obtain ⟨h1, h2, _⟩ := simV G h
    exact se_of h1 comp_mv fun _ => h2
  | .vz i, X, C, T, x, G, h => by
    unfold matE at h
    obtain ⟨h1, h2, _⟩ := simV G h
    exact se_of h1 comp_vz fun _ => h2
  | .gl k d, X, C, T, x, G, h => by
    unfold matE at h
    split at h
    · rename_i s p
      simp only [Bool.and_eq_true] at h
      obtain ⟨hg, _, hd⟩ := glb_of G.sc h.1
      have h2 := h.2
      split at h2
      · rename_i d' hl
        have e := eqD_eq h2
        subst e
        obtain ⟨v, u, hm, r, rf⟩ := G.gls s d (lookup_mem hl)
        exact se_of (pe_glob hg hm r hd) (comp_gl rf) fun _ => rfl
      · cases h2
    · cases h
  | .fz a, X, C, T, x, G, h => by
    unfold matE at h
    simp only [Bool.and_eq_true] at h
    obtain ⟨⟨t, h1, h2⟩, _⟩ := simE a x G h.2
    have hB := bnot h.1
    exact se_of h1 (comp_fz (by rw [← hB]; exact h2)) fun z => by simpa only [tst] using z
  | .rd a, X, C, T, x, G, h => by
    unfold matE at h
    simp only [Bool.and_eq_true] at h
    obtain ⟨⟨t, h1, h2⟩, _⟩ := simE a x G h.2
    exact se_of h1 (comp_rd (by rw [← h.1]; exact h2)) fun z => by simpa only [tst] using z
  | .bin o a b, X, C, T, x, G, h => by
    unfold matE at h
    split at h
    · rename_i l op r p
      simp only [Bool.and_eq_true, decide_eq_true_eq] at h
      obtain ⟨⟨⟨h0, h1⟩, h2⟩, h3⟩ := h
      subst h0
      obtain ⟨⟨ta, a1, a2⟩, _⟩ := simE a l G h2
      obtain ⟨⟨tb, b1, b2⟩, _⟩ := simE b r G h3
      exact se_of (pe_op (by rw [← G.K]; exact op_bin o) a1 b1) (comp_bin a2 b2 (imp_of h1)) fun _ => rfl
    · cases h
  | .neg a, X, C, T, x, G, h => by
    unfold matE at h
    split at h
    · rename_i op e p
      simp only [Bool.and_eq_true, decide_eq_true_eq] at h
      obtain ⟨h0, h2⟩ := h
      subst h0
      obtain ⟨⟨ta, a1, a2⟩, _⟩ := simE a e G h2
      exact se_of (pe_un un_neg a1) (comp_neg a2) fun z => by simp [tst, plainX] at z
    · cases h
  | .cmp o a b, X, C, T, x, G, h => by
    unfold matE at h
    split at h
    · rename_i l op r p
      simp only [Bool.and_eq_true, decide_eq_true_eq] at h
      obtain ⟨⟨⟨⟨h0, hs⟩, h1⟩, h2⟩, h3⟩ := h
      subst h0
      obtain ⟨⟨ta, a1, a2⟩, _⟩ := simE a l G h2
      obtain ⟨⟨tb, b1, b2⟩, _⟩ := simE b r G h3
      have ho : OpR X (compareOp (opC o)) (rCmp C.K o) := by
        rw [← G.K]; exact op_cmp (by have := G.un; omega) o
      have hc := comp_cmp (o := o) a2 b2 (imp_of h1)
      exact ⟨⟨_, pe_cmpR ho a1 b1 (mark_no hs), hc⟩, fun _ => ⟨_, pt_cmpR ho a1 b1 (mark_no hs), ct_val hc⟩⟩
    · cases h
  | .chn o p a b c, X, C, T, x, G, h => by
    unfold matE at h
    split at h
    · rename_i l op op' r r' q
      simp only [Bool.and_eq_true, decide_eq_true_eq] at h
      obtain ⟨⟨⟨⟨⟨⟨⟨h0, h0'⟩, hs⟩, hA⟩, hB⟩, h2⟩, h3⟩, h4⟩ := h
      subst h0 h0'
      obtain ⟨⟨ta, a1, a2⟩, _⟩ := simE a l G h2
      obtain ⟨⟨tb, b1, b2⟩, _⟩ := simE b r G h3
      obtain ⟨⟨tc, c1, c2⟩, _⟩ := simE c r' G h4
      have ho : ∀ o, OpR X (compareOp (opC o)) (rCmp C.K o) := fun o => by
        rw [← G.K]; exact op_cmp (by have := G.un; omega) o
      have hc := comp_chn (o := o) (p := p) a2 b2 c2 (bnot hA) (bnot hB)
      exact ⟨⟨_, pe_chain (ho o) (ho p) a1 b1 c1 (lastM hs), hc⟩, fun _ => ⟨_, pt_chain (ho o) (ho p) a1 b1 c1 (lastM hs), ct_val hc⟩⟩
    · cases h
  | .an a b, X, C, T, x, G, h => by
    unfold matE at h
    split at h
    · rename_i op y z r p
      simp only [Bool.and_eq_true, decide_eq_true_eq] at h
      obtain ⟨⟨⟨h0, hB⟩, h2⟩, h3⟩ := h
      subst h0
      obtain ⟨⟨ta, a1, a2⟩, a3⟩ := simE a y G h2
      cases r with
      | nil =>
        simp only [] at h3
        obtain ⟨⟨tb, b1, b2⟩, b3⟩ := simE b z G h3
        refine ⟨⟨_, pe_and a1 (pe_one b1), comp_an a2 b2 (bnot hB)⟩, fun q => ?_⟩
        simp only [tst, Bool.and_eq_true] at q
        obtain ⟨ta', x1, x2⟩ := a3 q.1
        obtain ⟨tb', y1, y2⟩ := b3 q.2
        exact ⟨_, (pw_and x1 (pw_and1 y1)).pt, ct_an x2 y2⟩
      | cons r1 rs =>
        simp only [] at h3
        obtain ⟨⟨tb, b1, b2⟩, b3⟩ := simE b (.BoolOp .And (z :: r1 :: rs) p) G h3
        refine ⟨⟨_, pe_and a1 b1, comp_an a2 b2 (bnot hB)⟩, fun q => ?_⟩
        simp only [tst, Bool.and_eq_true] at q
        obtain ⟨ta', x1, x2⟩ := a3 q.1
        obtain ⟨tb', y1, y2⟩ := b3 q.2
        exact ⟨_, (pw_and x1 (pw_bool y1)).pt, ct_an x2 y2⟩
    · cases h
  | .orv a b, X, C, T, x, G, h => by
    unfold matE at h
    split at h
    · rename_i op y z p
      simp only [Bool.and_eq_true, decide_eq_true_eq] at h
      obtain ⟨⟨⟨h0, hB⟩, h2⟩, h3⟩ := h
      subst h0
      obtain ⟨⟨ta, a1, a2⟩, a3⟩ := simE a y G h2
      obtain ⟨⟨tb, b1, b2⟩, b3⟩ := simE b z G h3
      refine se_of (t := tOrT C.K ta tb) ?_ (comp_orv a2 b2 (bnot hB)) fun z => by cases z
      rw [← G.K]
      exact pe_orT a1 (pe_one b1)
    · cases h
  | .orr a b, X, C, T, x, G, h => by
    unfold matE at h
    split at h
    · rename_i op y z r p
      simp only [Bool.and_eq_true, decide_eq_true_eq] at h
      obtain ⟨⟨⟨h0, hB⟩, h2⟩, h3⟩ := h
      subst h0
      obtain ⟨⟨ta, a1, a2⟩, a3⟩ := simE a y G h2
      cases r with
      | nil =>
        simp only [] at h3
        obtain ⟨⟨tb, b1, b2⟩, b3⟩ := simE b z G h3
        refine ⟨⟨_, pe_or a1 (pe_one b1), comp_orr a2 b2 (bnot hB)⟩, fun q => ?_⟩
        simp only [tst, Bool.and_eq_true] at q
        obtain ⟨ta', x1, x2⟩ := a3 q.1
        obtain ⟨tb', y1, y2⟩ := b3 q.2
        exact ⟨_, (pw_or x1 (pw_or1 y1)).pt, ct_orr x2 y2⟩
      | cons r1 rs =>
        simp only [] at h3
        obtain ⟨⟨tb, b1, b2⟩, b3⟩ := simE b (.BoolOp .Or (z :: r1 :: rs) p) G h3
        refine ⟨⟨_, pe_or a1 b1, comp_orr a2 b2 (bnot hB)⟩, fun q => ?_⟩
        simp only [tst, Bool.and_eq_true] at q
        obtain ⟨ta', x1, x2⟩ := a3 q.1
        obtain ⟨tb', y1, y2⟩ := b3 q.2
        exact ⟨_, (pw_or x1 (pw_bool y1)).pt, ct_orr x2 y2⟩
    · cases h
  | .nt a, X, C, T, x, G, h => by
    unfold matE at h
    split at h
    · rename_i op e p
      simp only [Bool.and_eq_true, decide_eq_true_eq] at h
      obtain ⟨h0, h2⟩ := h
      subst h0
      obtain ⟨⟨ta, a1, a2⟩, a3⟩ := simE a e G h2
      refine ⟨⟨_, pe_not a1, comp_nt a2⟩, fun q => ?_⟩
      simp only [tst] at q
      obtain ⟨t', x1, x2⟩ := a3 q
      exact ⟨_, pt_not x1, ct_nt x2⟩
    · cases h
  | .ite c a b, X, C, T, x, G, h => by
    unfold matE at h
    split at h
    · rename_i t u w p
      simp only [Bool.and_eq_true] at h
      obtain ⟨⟨⟨⟨⟨hA, hB⟩, ht⟩, h1⟩, h2⟩, h3⟩ := h
      obtain ⟨_, c3⟩ := simE c t G h1
      obtain ⟨tc, c1, c2⟩ := c3 ht
      obtain ⟨⟨ta, a1, a2⟩, _⟩ := simE a u G h2
      obtain ⟨⟨tb, b1, b2⟩, _⟩ := simE b w G h3
      exact se_of (pe_ifExp c1 a1 b1) (comp_ite c2 a2 b2 (bnot hA) (bnot hB)) fun z => by simp [tst, plainX] at z
    · cases h
  | .tup es, X, C, T, x, G, h => by
    unfold matE at h
    split at h
    · rename_i l k p
      simp only [Bool.and_eq_true] at h
      obtain ⟨q, _⟩ := simL es l G h.2
      obtain ⟨t, a1, a2, _⟩ := q h.1
      exact se_of (pe_tup a1) (comp_tup a2) fun _ => rfl
    · cases h
  | .lst es, X, C, T, x, G, h => by
    unfold matE at h
    split at h
    · rename_i l p
      simp only [Bool.and_eq_true] at h
      obtain ⟨q, _⟩ := simL es l G h.2
      obtain ⟨t, a1, a2, _⟩ := q h.1
      exact se_of (pe_lst a1) (comp_lst a2) fun _ => rfl
    · cases h
  | .ix a b, X, C, T, x, G, h => by
    unfold matE at h
    split at h
    · rename_i l s p
      simp only [Bool.and_eq_true] at h
      obtain ⟨⟨⟨hs, h1⟩, h2⟩, h3⟩ := h
      obtain ⟨⟨ta, a1, a2⟩, _⟩ := simE a l G h2
      obtain ⟨⟨tb, b1, b2⟩, _⟩ := simE b s G h3
      exact se_of (pe_ix (by rw [← G.K]; exact op_ix (by have := G.un; omega)) a1 b1 (plain_ix hs)) (comp_ix a2 b2 (imp_of h1)) fun _ => rfl
    · cases h
  | .sl a lo hi, X, C, T, x, G, h => by
    unfold matE at h
    split at h
    · rename_i l u w p2 p
      simp only [Bool.and_eq_true] at h
      obtain ⟨⟨⟨hA, h1⟩, h2⟩, h3⟩ := h
      obtain ⟨⟨ta, a1, a2⟩, _⟩ := simE a l G h1
      obtain ⟨tl, b1, b2⟩ := simO lo u G h2
      obtain ⟨th, c1, c2⟩ := simO hi w G h3
      exact se_of (pe_slice (by rw [← G.K]; exact op_sl) a1 b1 c1) (comp_sl a2 b2 c2 (bnot hA)) fun _ => rfl
    · cases h
  | .mkx c kw a, X, C, T, x, G, h => by
    unfold matE at h
    simp only [Bool.and_eq_true, decide_eq_true_eq, Bool.not_eq_true'] at h
    obtain ⟨⟨⟨hc, hm⟩, hh⟩, h⟩ := h
    obtain ⟨k9, m1, m2, m3, xg⟩ := G.ecs c hm
    obtain ⟨xf, xk⟩ := m3.1 hc
    obtain ⟨kk, rm⟩ := G.rm
    rw [hh] at rm
    rw [G.K] at xk
    split at h
    · rename_i s p n e p1 p2
      simp only [Bool.and_eq_true, decide_eq_true_eq] at h
      obtain ⟨⟨⟨rfl, hg⟩, rfl⟩, h1⟩ := h
      obtain ⟨g1, g2, g3⟩ := glb_of G.sc hg
      obtain ⟨⟨ta, a1, a2⟩, _⟩ := simE a e G h1
      exact se_of (pe_mkxK (e := e) (tk := tCons ta tNil) xf xg (by simp) rm.room g1 m1 (pk_cons a1 pk_nil) rfl rfl g3 rfl) (by rw [G.K]; exact comp_mkx xk a2) fun _ => rfl
    · rename_i s p e p2
      simp only [Bool.and_eq_true, decide_eq_true_eq] at h
      obtain ⟨⟨⟨rfl, hg⟩, hs⟩, h1⟩ := h
      obtain ⟨g1, g2, g3⟩ := glb_of G.sc hg
      obtain ⟨⟨ta, a1, a2⟩, _⟩ := simE a e G h1
      exact se_of (pe_mkx xf xg (by simp) rm.room g1 m1 g3 a1 (star_cons hs)) (by rw [G.K]; exact comp_mkx xk a2) fun _ => rfl
    · cases h
  | .isz ks, X, C, T, x, G, h => by
    unfold matE at h
    split at h
    · rename_i s p n p1 p2 es x1 p3 p4
      simp only [Bool.and_eq_true, decide_eq_true_eq] at h
      obtain ⟨⟨⟨⟨⟨⟨⟨rfl, hg⟩, hb⟩, rfl⟩, hn⟩, h0⟩, hl⟩, hc⟩ := h
      obtain ⟨g1, g2, g3⟩ := glb_of G.sc hg
      obtain ⟨n1, n2, n3⟩ := glb_of G.sc hn
      obtain ⟨k9, m1, m2, m3, xg⟩ := G.ecs 0 h0
      have zk := m3.2 rfl
      obtain ⟨hks, pc⟩ := cs_of G hc
      have pz : PE X (.Call (.Name (clsNm 0) p1) [] [] p2) (tZ0 (caK X.K 0)) := pe_of_mk0 (pmk_own0 PySem.F.excBase_ValueError zk.exq m1 zk.kC (raises_own zk.exC zk.tyC) n1 n3)
      rw [G.K] at pz zk
      have hci : CallR X (.builtin "isinstance") (rIsZ C.K) := by rw [← G.K]; exact call_isz
      exact se_of (pe_callB hci g1 (G.bls _ hb) PyProof.Rows.boot_isinstance (pa_cons pz (pa_cons (pe_tup pc) pa_nil rfl) rfl) g2 g3 rfl rfl) (comp_isz zk (by rw [← G.K]; exact xg) hks (by have := sizeL_eq; have := PySem.sizeLine_eq; omega)) fun _ => rfl
    · cases h
  | .isx a k, X, C, T, x, G, h => by
    unfold matE at h
    split at h
    · rename_i s p e c p2 q
      simp only [Bool.and_eq_true, decide_eq_true_eq] at h
      obtain ⟨⟨⟨⟨⟨⟨rfl, hg⟩, hb⟩, hs⟩, h1⟩, hc⟩, h2⟩ := h
      obtain ⟨g1, g2, g3⟩ := glb_of G.sc hg
      obtain ⟨c1, c2, c3⟩ := glb_of G.sc hc
      obtain ⟨⟨ta, a1, a2⟩, _⟩ := simE a e G h1
      have key : ∃ (P : Program), XcG P X.K ∧ (k = 100 ∨ (k < 9 ∧ PySem.W.nsIn C.K mainGlobals (clsNm k) = some (some (.ref (caK C.K k))))) ∧ PE X (.Name c p2) (tC (clW C.K k)) := by
        by_cases hk : k = 100
        · rw [if_pos hk] at h2
          simp only [Bool.and_eq_true, decide_eq_true_eq, Bool.not_eq_true'] at h2
          obtain ⟨⟨rfl, hcb⟩, hne⟩ := h2
          cases he : T.ecs with
          | nil => rw [he] at hne; cases hne
          | cons k0 r =>
            obtain ⟨_, _, _, _, xg⟩ := G.ecs k0 (by rw [he]; exact List.mem_cons_self ..)
            have hcl : clW C.K k = .ty "ValueError" := by unfold clW; rw [if_pos hk]
            rw [hcl]
            exact ⟨_, xg, .inl hk, pe_bltn c1 (G.bls _ hcb) PyProof.Rows.Boot.«ValueError» rfl (by decide) (by decide)⟩
        · rw [if_neg hk] at h2
          simp only [Bool.and_eq_true, decide_eq_true_eq] at h2
          obtain ⟨rfl, hm⟩ := h2
          obtain ⟨k9, m1, m2, _, xg⟩ := G.ecs k hm
          have hcl : clW C.K k = .ref (caK C.K k) := by unfold clW; rw [if_neg hk]
          rw [hcl]
          rw [G.K] at m1 m2
          exact ⟨_, xg, .inr ⟨k9, m2⟩, pe_glob c1 m1 rfl c3⟩
      obtain ⟨P, xg, hk, b1⟩ := key
      have hci : CallR X (.builtin "isinstance") (rIsX C.K) := by rw [← G.K]; exact call_isx xg
      exact se_of (pe_callB hci g1 (G.bls _ hb) PyProof.Rows.boot_isinstance (pa_cons a1 (pa_cons b1 pa_nil rfl) (star_cons hs)) g2 g3 (star_cons hs) rfl) (comp_isx hk a2) fun _ => rfl
    · cases h
  | .lm cnt d a, X, C, T, x, G, h => by
    unfold matE at h
    split at h
    · rename_i o at' ap e cp
      simp only [Bool.and_eq_true, decide_eq_true_eq] at h
      obtain ⟨⟨⟨⟨⟨⟨h0, hl⟩, hs⟩, hc⟩, hd⟩, hsd⟩, h1⟩ := h
      subst h0
      obtain ⟨⟨ta, a1, a2⟩, _⟩ := simE a o G h1
      obtain ⟨w, c1, c2⟩ := simC (C := C) hd
      have hc2 := comp_lm (cnt := cnt) c2 a2
      rw [← G.K] at hc2
      cases cnt with
      | true => exact se_of (pe_bm PySem.F.plainAttrs_list PySem.F.slot_list_count PySem.F.type_list_count mt_lm_cnt a1 (pa_cons c1 pa_nil (star_cons hs)) (base_no hc) (few1 hs) hl (star_cons hs) rfl) hc2 fun _ => rfl
      | false => exact se_of (pe_bm PySem.F.plainAttrs_list PySem.F.slot_list_index PySem.F.type_list_index mt_lm_idx a1 (pa_cons c1 pa_nil (star_cons hs)) (base_no hc) (few1 hs) hl (star_cons hs) rfl) hc2 fun _ => rfl
    · cases h
  | .xv a, X, C, T, x, G, h => by
    unfold matE at h
    split at h
    · rename_i e f p
      simp only [Bool.and_eq_true, decide_eq_true_eq] at h
      obtain ⟨⟨rfl, hc⟩, h1⟩ := h
      obtain ⟨⟨ta, a1, a2⟩, _⟩ := simE a e G h1
      refine se_of (pe_xv a1 (base_no hc)) ?_ fun _ => rfl
      rw [G.K]
      exact comp_xv a2
    · cases h
  | .bi f es, X, C, T, x, G, h => by
    unfold matE at h
    have hh : T.hot = false := by simpa using (Bool.and_eq_true_iff.mp h).1
    replace h := (Bool.and_eq_true_iff.mp h).2
    split at h
    · rename_i s p y r q
      simp only [Bool.and_eq_true, decide_eq_true_eq] at h
      obtain ⟨⟨⟨⟨h0, hg⟩, hb⟩, ho⟩, h1⟩ := h
      subst h0
      obtain ⟨g1, g2, g3⟩ := glb_of G.sc hg
      obtain ⟨_, k, _⟩ := simL es (y :: r) G h1
      obtain ⟨t, a1, a2⟩ := k ho
      have hst : (y :: r).all nstar = true := star_matL h1
      simp only [List.all_cons, Bool.and_eq_true] at hst
      have hc : CallR X (biName f).2 (rBi C.K f) := by rw [← G.K]; exact op_bi (G.calm hh) G.un G.gd f
      refine se_of (t := tCB (rBi C.K f) t) ?_ (comp_bi a2) fun _ => rfl
      have hv := bi_boot f
      rcases bi_kind f with ⟨id, e⟩ | ⟨id, e⟩
      · rw [e] at hc hv
        exact pe_callB hc g1 (G.bls _ hb) hv a1 g2 g3 (star_cons hst.1) (star_plain hst.2)
      · rw [e] at hc hv
        exact pe_callTy hc g1 (G.bls _ hb) hv a1 g2 g3 (star_cons hst.1) (star_plain hst.2)
    · cases h
  | .call f es, X, C, T, x, G, h => by
    unfold matE at h
    split at h
    · rename_i s p y r q
      simp only [Bool.and_eq_true] at h
      obtain ⟨⟨⟨hg, hl⟩, hst⟩, h1⟩ := h
      obtain ⟨g1, g2, g3⟩ := glb_of G.sc hg
      split at hl
      · rename_i i ps hlk
        simp only [Bool.and_eq_true, decide_eq_true_eq] at hl
        obtain ⟨hi, hlen⟩ := hl
        subst hi
        obtain ⟨fa, fd, k, hm, hk, hb, hr, F⟩ := G.fns s i ps (mem_fns hlk)
        obtain ⟨t, a1, a2⟩ := simA es (y :: r) G h1 hst
        simp only [List.all_cons, Bool.and_eq_true] at hst
        exact se_of (pe_cl (F (tags es) (by rw [tags_len (C := C) h1]; exact hlen.symm)) hr G.gd g1 hm hk hb G.tk a1 g3 (star_cons hst.1) (star_plain hst.2)) (comp_call a2) fun _ => rfl
      · cases hl
    · cases h
  | .callk f es pm ks, X, C, T, x, G, h => by
    unfold matE at h
    split at h
    · rename_i s p args kws q
      simp only [Bool.and_eq_true, decide_eq_true_eq] at h
      obtain ⟨⟨⟨⟨⟨⟨⟨hg, hl⟩, hk⟩, hne⟩, hn1⟩, hn2⟩, h1⟩, h2⟩ := h
      obtain ⟨g1, g2, g3⟩ := glb_of G.sc hg
      obtain ⟨fa, fd, ps, k, hm, hkp, hb, hr, F⟩ := G.kfns _ _ _ _ _ hl
      obtain ⟨t, a1, a2, _⟩ := (simL es args G h1).1 hn1
      obtain ⟨tk, b1, b2, b3⟩ := (simL ks (kws.map fun k => k.value) G h2).1 hn2
      have hlen : lenL ks = (kwNames kws).length := by rw [kw_len hk, matL_len h2, List.length_map]
      have PKk := b3 kws rfl
      obtain ⟨q1, q2, q3⟩ := kw_ok (pos := q) (env := X.env) hk
      rw [← hlen] at hb
      have hst := star_matL h1
      have hpl : ((backTo q (starEach args X.env)).any (·.1) || (backToKw q (keywordEach kws X.env)).any (·.1.isNone)) = false := by rw [star_plain hst, q3]; rfl
      cases args with
      | nil =>
        cases es with
        | nil =>
          have e0 := comp_callk (f := f) (pm := pm) (cl2_nil (C := C)) b2
          exact se_of (pe_clk0 F hr G.gd g1 hm hkp hb G.tk PKk q1 q2 g3 hpl) e0 fun _ => rfl
        | cons _ _ => simp [matL] at h1
      | cons e r =>
        simp only [List.all_cons, Bool.and_eq_true] at hst
        exact se_of (pe_clk F hr G.gd g1 hm hkp hb G.tk a1 PKk q1 q2 g3 (star_cons hst.1) hpl) (comp_callk a2 b2) fun _ => rfl
    · cases h
  | .app p a, X, C, T, x, G, h => by
    unfold matE at h
    split at h
    · rename_i o at' ap e cp
      simp only [Bool.and_eq_true, decide_eq_true_eq] at h
      obtain ⟨⟨⟨⟨⟨⟨⟨h0, hl⟩, hB⟩, hp⟩, hs⟩, hc⟩, h1⟩, h2⟩ := h
      subst h0
      obtain ⟨tp, a1, a2⟩ := simP p o G h1
      obtain ⟨⟨ta, b1, b2⟩, _⟩ := simE a e G h2
      refine se_of (pe_bm PySem.F.plainAttrs_list PySem.F.slot_list_append PySem.F.type_list_append mt_append a1 (pa_cons b1 pa_nil (star_cons hs)) (base_no hc) (few1 hs) hl (star_cons hs) rfl) ?_ fun _ => rfl
      rw [G.K]
      refine comp_app a2 b2 (bnot hB) ?_
      rcases (Bool.or_eq_true _ _).mp hp with z | z
      · cases p <;> first | exact .inl ⟨_, rfl⟩ | simp [isSl] at z
      · exact .inr z
    · cases h
  | .rev a, X, C, T, x, G, h => by
    unfold matE at h
    split at h
    · rename_i l op i k p1 p2 p3 pos
      simp only [Bool.and_eq_true, decide_eq_true_eq] at h
      obtain ⟨⟨rfl, rfl⟩, h1⟩ := h
      obtain ⟨⟨ta, a1, a2⟩, _⟩ := simE a l G h1
      refine se_of (pe_rev a1) ?_ fun _ => rfl
      rw [G.K]
      exact comp_rev a2
    · cases h
  | .dlk ps a, X, C, T, x, G, h => by
    unfold matE at h
    split at h
    · rename_i ks vs dp i p
      simp only [Bool.and_eq_true, decide_eq_true_eq] at h
      obtain ⟨⟨⟨⟨⟨h1, h2⟩, h3⟩, hs⟩, hB⟩, h4⟩ := h
      obtain ⟨⟨ta, a1, a2⟩, _⟩ := simE a i G h4
      have hu := G.un
      refine se_of (pe_dlk (by omega) h1 (fun z => by rw [z] at h2; simp at h2) h3 a1 (nosl_of hs)) (comp_dlk a2 (bnot hB)) fun _ => rfl
    · cases h
  | .dsp ks es, X, C, T, x, G, h => by
    unfold matE at h
    split at h
    · rename_i kes l p
      simp only [Bool.and_eq_true, decide_eq_true_eq] at h
      obtain ⟨⟨⟨⟨⟨h1, hn⟩, h2⟩, h3⟩, h0⟩, h15⟩ := h
      obtain ⟨_, _, k⟩ := simL es l G h2
      obtain ⟨trs, a1, a2⟩ := k hn ks kes p h1 h3
      obtain ⟨ha, hb⟩ := cKes_all h1
      exact se_of (pe_disp a1 ha (by omega) (fun z => by rw [z] at hb; exact h0 (List.length_eq_zero_iff.mp hb.symm)) (by omega)) (comp_dsp a2) fun _ => rfl
    · cases h
  | .tdd a b, X, C, T, x, G, h => by
    unfold matE at h
    split at h
    · rename_i k v p
      simp only [Bool.and_eq_true] at h
      obtain ⟨⟨⟨h1, h2⟩, h3⟩, h4⟩ := h
      obtain ⟨⟨ta, a1, a2⟩, _⟩ := simE a k G h3
      obtain ⟨⟨tb, b1, b2⟩, _⟩ := simE b v G h4
      refine se_of (pe_dispT (by have := G.un; omega) a1 b1) ?_ fun _ => rfl
      rw [G.K]
      exact comp_tdd a2 b2 (bnot h1) (bnot h2)
    · cases h
  | .mn4 a b, X, C, T, x, G, h => by
    unfold matE at h
    have hh : T.hot = false := by simpa using (Bool.and_eq_true_iff.mp h).1
    replace h := (Bool.and_eq_true_iff.mp h).2
    split at h
    · rename_i s p u p1 v p2 q
      simp only [Bool.and_eq_true, decide_eq_true_eq] at h
      obtain ⟨⟨⟨⟨⟨⟨h0, hg⟩, hb⟩, hA⟩, hB⟩, h1⟩, h2⟩ := h
      subst h0
      obtain ⟨g1, g2, g3⟩ := glb_of G.sc hg
      obtain ⟨⟨ta, a1, a2⟩, _⟩ := simE a u G h1
      obtain ⟨⟨tb, b1, b2⟩, _⟩ := simE b v G h2
      have hv : bootBuiltins "min" = some (.builtin "min") := bi_boot .min1
      refine se_of (t := tCB rMin4 (StX.tStar C.K ta (StX.tStar C.K tb tNil))) ?_ (comp_mn4 a2 b2 (bnot hA) (bnot hB)) fun _ => rfl
      rw [← G.K]
      exact pe_callB2s (call_min4 (G.calm hh)) g1 (G.bls _ hb) hv a1 b1 g2 g3
    · cases h
  | .fs3 a b c, X, C, T, x, G, h => by
    unfold matE at h
    split at h
    · rename_i x1 i1 p1 x2 i2 p2 x3 i3 p3 p
      simp only [Bool.and_eq_true, decide_eq_true_eq] at h
      obtain ⟨⟨⟨⟨⟨⟨⟨⟨rfl, rfl⟩, rfl⟩, hA⟩, hB⟩, hC⟩, h1⟩, h2⟩, h3⟩ := h
      obtain ⟨⟨ta, a1, a2⟩, _⟩ := simE a x1 G h1
      obtain ⟨⟨tb, b1, b2⟩, _⟩ := simE b x2 G h2
      obtain ⟨⟨tc, c1, c2⟩, _⟩ := simE c x3 G h3
      exact se_of (pe_joined (.cons (pe_fmt a1) (.cons (pe_fmt b1) (.cons (pe_fmt c1) .nil)))) (comp_fs3 a2 b2 c2 (bnot hA) (bnot hB) (bnot hC)) fun _ => rfl
    · cases h
  | .bm m a es, X, C, T, x, G, h => by
    unfold matE at h
    split at h
    · rename_i o at' ap e cp
      simp only [Bool.and_eq_true, decide_eq_true_eq] at h
      obtain ⟨⟨⟨⟨⟨⟨h0, hl⟩, hs⟩, hc⟩, ho⟩, h1⟩, h2⟩ := h
      subst h0
      obtain ⟨⟨ta, a1, a2⟩, _⟩ := simE a o G h1
      obtain ⟨_, k, _⟩ := simL es [e] G h2
      obtain ⟨t, b1, b2⟩ := k ho
      have hc2 := comp_bm (m := m) a2 b2
      rw [← G.K] at hc2
      cases m with
      | join => exact se_of (pe_bm PySem.F.plainAttrs_str PySem.F.slot_str_join PySem.F.type_str_join mt_bm_join a1 b1 (base_no hc) (few1 hs) hl (star_cons hs) rfl) hc2 fun _ => rfl
      | split => exact se_of (pe_bm PySem.F.plainAttrs_str PySem.F.slot_str_split PySem.F.type_str_split mt_bm_split a1 b1 (base_no hc) (few1 hs) hl (star_cons hs) rfl) hc2 fun _ => rfl
      | sidx => exact se_of (pe_bm PySem.F.plainAttrs_str PySem.F.slot_str_index PySem.F.type_str_index mt_bm_sidx a1 b1 (base_no hc) (few1 hs) hl (star_cons hs) rfl) hc2 fun _ => rfl
    · cases h
  | .mm m p es, X, C, T, x, G, h => by
    unfold matE at h
    split at h
    · rename_i o at' ap y r cp
      simp only [Bool.and_eq_true, decide_eq_true_eq] at h
      obtain ⟨⟨⟨⟨⟨⟨⟨⟨h0, hl⟩, hs⟩, hn⟩, hc⟩, ho⟩, hp⟩, h1⟩, h2⟩ := h
      subst h0
      obtain ⟨tp, a1, a2⟩ := simP p o G h1
      obtain ⟨k, _⟩ := simL es (y :: r) G h2
      obtain ⟨t, b1, b2, _⟩ := k ho
      have hpp : (∃ i, p = .s i) ∨ pureL es = true := by
        rcases (Bool.or_eq_true _ _).mp hp with z | z
        · cases p <;> first | exact .inl ⟨_, rfl⟩ | simp [isSl] at z
        · exact .inr z
      have hc2 := comp_mm (m := m) a2 b2 hpp
      rw [← G.K] at hc2
      have hst := hs
      simp only [List.all_cons, Bool.and_eq_true] at hst
      cases m with
      | insert => exact se_of (pe_bm PySem.F.plainAttrs_list PySem.F.slot_list_insert PySem.F.type_list_insert mt_insert a1 b1 (base_no hc) (fewN hs hn) hl (star_cons hst.1) (star_plain hst.2)) hc2 fun _ => rfl
      | extend => exact se_of (pe_bm PySem.F.plainAttrs_list PySem.F.slot_list_extend PySem.F.type_list_extend mt_extend a1 b1 (base_no hc) (fewN hs hn) hl (star_cons hst.1) (star_plain hst.2)) hc2 fun _ => rfl
    · cases h
  | .lss es, X, C, T, x, G, h => by
    unfold matE at h
    split at h
    · rename_i l p
      obtain ⟨t, a1, a2⟩ := simQ es l G h
      exact se_of (pe_lst a1) (comp_lss a2) fun _ => rfl
    · cases h
  | .pop p, X, C, T, x, G, h => by
    unfold matE at h
    split at h
    · rename_i o at' ap cp
      simp only [Bool.and_eq_true, decide_eq_true_eq] at h
      obtain ⟨⟨⟨h0, hl⟩, hc⟩, h1⟩ := h
      subst h0
      obtain ⟨tp, a1, a2⟩ := simP p o G h1
      refine se_of (pe_bm0 PySem.F.plainAttrs_list PySem.F.slot_list_pop PySem.F.type_list_pop mt_pop a1 (base_no hc) hl) ?_ fun _ => rfl
      rw [G.K]
      exact comp_pop a2
    · cases h
  | .popi p a, X, C, T, x, G, h => by
    unfold matE at h
    split at h
    · rename_i o at' ap e cp
      simp only [Bool.and_eq_true, decide_eq_true_eq] at h
      obtain ⟨⟨⟨⟨⟨⟨h0, hl⟩, hpu⟩, hs⟩, hc⟩, h1⟩, h2⟩ := h
      subst h0
      obtain ⟨tp, a1, a2⟩ := simP p o G h1
      obtain ⟨⟨ta, b1, b2⟩, _⟩ := simE a e G h2
      refine se_of (pe_bm PySem.F.plainAttrs_list PySem.F.slot_list_pop PySem.F.type_list_pop mt_popAt a1 (pa_cons b1 pa_nil (star_cons hs)) (base_no hc) (few1 hs) hl (star_cons hs) rfl) ?_ fun _ => rfl
      rw [G.K]
      exact comp_popi a2 b2 hpu
    · cases h
  | .lc own s t cd a, X, C, T, x, G, h => by
    unfold matE at h
    have hh : T.hot = false := by simpa using (Bool.and_eq_true_iff.mp h).1
    replace h := (Bool.and_eq_true_iff.mp h).2
    split at h
    · rename_i elt tg iter ifs scope p
      simp only [Bool.and_eq_true, List.all_eq_true, decide_eq_true_eq] at h
      obtain ⟨⟨⟨⟨⟨⟨⟨h0, hns⟩, hA⟩, hsl⟩, h1⟩, h2⟩, h3⟩, h4⟩ := h
      obtain ⟨wi, a1, a2⟩ := simI s iter tg G h1
      have hB := bnot hA
      have ok := blkOk_by h0
      rw [← G.N, ← G.sc] at ok
      have hmap := own_map T own
      have hg : ∀ (s : Shared) (H : Hp) (A : Addr) (cl : List (Str × Addr)) (fp : List Addr), PG (X.blk s H scope (compEnvC scope cl A X.env) fp) tg (gOf C.K t) := fun s H A cl fp => (simT (G.blk s H A cl fp) t tg h2).1
      have hg2 : CompT C.nox t (gOf C.K t) := (simT (G.blk X.s_0 X.H_0 0 [] []) t tg h2).2
      have ht : ∀ (s : Shared) (H : Hp) (A : Addr) (cl : List (Str × Addr)) (fp : List Addr), PTs (X.blk s H scope (compEnvC scope cl A X.env) fp) ifs (tW C.nox RQ false (evC C.phi cd)) := fun s H A cl fp => by
        obtain ⟨t, q1, q2⟩ := simCd cd ifs (G.blk s H A cl fp) h3
        exact ⟨fun pins s σ H Q I hw => q1.run pins s σ H Q I (q2.of_tW hw)⟩
      have he : ∀ (s : Shared) (H : Hp) (A : Addr) (cl : List (Str × Addr)) (fp : List Addr), PE (X.blk s H scope (compEnvC scope cl A X.env) fp) elt (tW C.nox (RV C.K (isB a)) (pureE a) (evE C.phi a)) := fun s H A cl fp => by
        obtain ⟨⟨t, q1, q2⟩, _⟩ := simE a elt (G.blk s H A cl fp) h4
        exact pe_of q2 q1
      have k := pe_lc (pos := p) (G.calm hh) (by rw [G.N]; exact G.nd) a1 ok hg ht he (fold_no hns)
      rw [hmap] at k
      exact se_of k (comp_lc a2 hg2 comp_tW comp_tW hB hsl) fun _ => rfl
    · cases h
theorem simL : ∀ (es : LL) {X : Cx} {C : Cz} {T : Tb} (l : List Expr), Good X C T → matL es T l = true →
    (noB es = true → ∃ t, PA X l t ∧ Comp C (RL2 C.K) (pureL es) t (evL C.phi es) ∧ ∀ kws : List Keyword, (kws.map fun k => k.value) = l → PK X kws t) ∧ (okB es = true → ∃ t, PA X l t ∧ Comp C (RM C.K) (pureL es) t (evL C.phi es)) ∧
    (noB es = true → ∀ (ks : List (List Nat)) (kes : List (Option Expr)) (pos : Pos), cKes ks kes = true → ks.length = l.length → ∃ trs, PPs X pos kes l trs ∧ Comp C (RLP C.K ks) (pureL es) (tPairs trs) (evL C.phi es))
  | .nil, X, C, T, l, G, h => by
    unfold matL at h
    have := lst2 h
    subst this
    exact ⟨fun _ => ⟨_, pa_nil, cl2_nil, fun kws hk => by
      cases kws with
      | nil => exact pk_nil
      | cons _ _ => simp at hk⟩, fun _ => ⟨_, pa_nil, cl_nil⟩, fun _ ks kes pos hk hl => by
      cases ks with
      | nil => rw [cKes_nil hk]; exact ⟨[], pps_nil, cp2_nil⟩
      | cons _ _ => simp at hl⟩
  | .cons a r, X, C, T, l, G, h => by
    unfold matL at h
    cases l with
    | nil => simp at h
    | cons e l =>
      simp only [Bool.and_eq_true] at h
      obtain ⟨⟨hs, h1⟩, h2⟩ := h
      obtain ⟨⟨ta, a1, a2⟩, _⟩ := simE a e G h1
      obtain ⟨k1, k2, k3⟩ := simL r l G h2
      refine ⟨fun z => ?_, fun z => ?_, fun z ks kes pos hk hl => ?_⟩
      · simp only [noB, Bool.and_eq_true] at z
        obtain ⟨t, b1, b2, b3⟩ := k1 z.2
        refine ⟨_, pa_cons a1 b1 (star_cons hs), cl2_cons a2 b2 (bnot z.1), fun kws hk => ?_⟩
        cases kws with
        | nil => simp at hk
        | cons kw kws =>
          obtain ⟨nm, v, kp⟩ := kw
          simp only [List.map_cons, List.cons.injEq] at hk
          obtain ⟨rfl, hk⟩ := hk
          exact pk_cons a1 (b3 kws hk)
      · simp only [okB, Bool.and_eq_true] at z
        obtain ⟨t, b1, b2⟩ := k2 z.2
        exact ⟨_, pa_cons a1 b1 (star_cons hs), cl_cons a2 b2 (imp_of z.1)⟩
      · simp only [noB, Bool.and_eq_true] at z
        cases ks with
        | nil => simp at hl
        | cons k ks =>
          obtain ⟨s, i, q, r', rfl, hs', h2'⟩ := cKes_cons hk
          obtain ⟨trs, p1, p2⟩ := k3 z.2 ks r' pos h2' (by simpa using hl)
          exact ⟨_, pps_k hs' a1 p1, cp2_cons a2 p2 (bnot z.1)⟩
theorem simQ : ∀ (es : LQ) {X : Cx} {C : Cz} {T : Tb} (l : List Expr), Good X C T → matQ es T l = true → ∃ t, PA X l t ∧ Comp C (RL2 C.K) (pureQ es) t (evQ C.phi es)
  | .nil, X, C, T, l, G, h => by
    unfold matQ at h
    have := lst2 h
    subst this
    exact ⟨_, pa_nil, cq_nil⟩
  | .cons a r, X, C, T, l, G, h => by
    unfold matQ at h
    cases l with
    | nil => simp at h
    | cons e l =>
      simp only [Bool.and_eq_true] at h
      obtain ⟨⟨⟨hs, hB⟩, h1⟩, h2⟩ := h
      obtain ⟨⟨ta, a1, a2⟩, _⟩ := simE a e G h1
      obtain ⟨t, b1, b2⟩ := simQ r l G h2
      exact ⟨_, pa_cons a1 b1 (star_cons hs), cq_cons a2 b2 (bnot hB)⟩
  | .star a r, X, C, T, l, G, h => by
    unfold matQ at h
    split at h
    · rename_i e p l
      simp only [Bool.and_eq_true] at h
      obtain ⟨⟨ta, a1, a2⟩, _⟩ := simE a e G h.1
      obtain ⟨t, b1, b2⟩ := simQ r l G h.2
      refine ⟨_, StX.pa_star a1 b1, ?_⟩
      rw [G.K]
      exact cq_star a2 b2
    · cases h
theorem simA : ∀ (es : LA) {X : Cx} {C : Cz} {T : Tb} (l : List Expr), Good X C T → matA es T l = true → l.all nstar = true → ∃ t, PA X l t ∧ CompA C es t
  | .nil, X, C, T, l, G, h, hs => by
    unfold matA at h
    have := lst2 h
    subst this
    exact ⟨_, pa_nil, ca_nil⟩
  | .e a r, X, C, T, l, G, h, hs => by
    unfold matA at h
    cases l with
    | nil => simp at h
    | cons e l =>
      simp only [Bool.and_eq_true, List.all_cons] at h hs
      obtain ⟨⟨ta, a1, a2⟩, _⟩ := simE a e G h.1.2
      obtain ⟨t, b1, b2⟩ := simA r l G h.2 hs.2
      exact ⟨_, pa_cons a1 b1 (star_cons hs.1), ca_e a2 b2 (bnot h.1.1)⟩
  | .io i r, X, C, T, l, G, h, hs => by
    unfold matA at h
    cases l with
    | nil => simp at h
    | cons e l =>
      simp only [Bool.and_eq_true, List.all_cons] at h hs
      obtain ⟨a1, _⟩ := simV G h.1
      obtain ⟨t, b1, b2⟩ := simA r l G h.2 hs.2
      exact ⟨_, pa_cons a1 b1 (star_cons hs.1), ca_slot (.inl rfl) b2⟩
  | .bo i r, X, C, T, l, G, h, hs => by
    unfold matA at h
    cases l with
    | nil => simp at h
    | cons e l =>
      simp only [Bool.and_eq_true, List.all_cons] at h hs
      obtain ⟨a1, _⟩ := simV G h.1
      obtain ⟨t, b1, b2⟩ := simA r l G h.2 hs.2
      exact ⟨_, pa_cons a1 b1 (star_cons hs.1), ca_slot (.inr rfl) b2⟩
theorem simO : ∀ (o : LO) {X : Cx} {C : Cz} {T : Tb} (x : Option Expr), Good X C T → matO o T x = true → ∃ t, PO X x t ∧ Comp C RQ (pureO o) t (evO C.phi o)
  | .no, X, C, T, x, G, h => by
    unfold matO at h
    cases x with
    | none => exact ⟨_, po_none, co_no⟩
    | some e => simp at h
  | .so a, X, C, T, x, G, h => by
    unfold matO at h
    cases x with
    | none => simp at h
    | some e =>
      obtain ⟨⟨ta, a1, a2⟩, _⟩ := simE a e G h
      exact ⟨_, po_some a1, co_so a2⟩
theorem simCd : ∀ (o : LO) {X : Cx} {C : Cz} {T : Tb} (x : List Expr), Good X C T → matCd o T x = true → ∃ t, PTs X x t ∧ Comp C RQ false t (evC C.phi o)
  | .no, X, C, T, x, G, h => by
    unfold matCd at h
    have := lst2 h
    subst this
    exact ⟨_, pts_nil, cc_no⟩
  | .so a, X, C, T, x, G, h => by
    unfold matCd at h
    split at h
    · rename_i e
      simp only [Bool.and_eq_true] at h
      obtain ⟨_, k⟩ := simE a e G h.2
      obtain ⟨t, a1, a2⟩ := k h.1
      exact ⟨_, pts_one a1, cc_so a2⟩
    · cases h
theorem simI : ∀ (s : LI) {X : Cx} {C : Cz} {T : Tb} (x tg : Expr), Good X C T → matI s T x tg = true → ∃ t, PI X tg x t ∧ CompI C s t
  | .val a, X, C, T, x, tg, G, h => by
    unfold matI at h
    simp only [Bool.and_eq_true] at h
    obtain ⟨⟨ta, a1, a2⟩, _⟩ := simE a x G h.2
    refine ⟨_, pi_or (pi_list a1) (pi_or (pi_tup a1) (pi_str a1)), ?_⟩
    rw [G.K]
    exact ci_val a2 (bnot h.1)
  | .rng1 a, X, C, T, x, tg, G, h => by
    unfold matI at h
    split at h
    · rename_i s p e q
      simp only [Bool.and_eq_true, decide_eq_true_eq] at h
      obtain ⟨⟨⟨⟨h0, hg⟩, hb⟩, hs⟩, h1⟩ := h
      subst h0
      obtain ⟨g1, _, _⟩ := glb_of G.sc hg
      obtain ⟨⟨ta, a1, a2⟩, _⟩ := simE a e G h1
      exact ⟨_, pi_range1 g1 (G.bls _ hb) (pa_cons a1 pa_nil (star_cons hs)) (star_cons hs), ci_rng1 a2⟩
    · cases h
  | .rng2 a b, X, C, T, x, tg, G, h => by
    unfold matI at h
    split at h
    · rename_i s p e e' q
      simp only [Bool.and_eq_true, decide_eq_true_eq] at h
      obtain ⟨⟨⟨⟨⟨⟨⟨h0, hg⟩, hb⟩, hs⟩, hs'⟩, hi⟩, h1⟩, h2⟩ := h
      subst h0
      obtain ⟨g1, _, _⟩ := glb_of G.sc hg
      obtain ⟨⟨ta, a1, a2⟩, _⟩ := simE a e G h1
      obtain ⟨⟨tb, b1, b2⟩, _⟩ := simE b e' G h2
      exact ⟨_, pi_range2 g1 (G.bls _ hb) (pa_cons a1 (pa_cons b1 pa_nil (star_cons hs')) (star_cons hs)) (by rw [star_cons hs, star_cons hs']; rfl) (star_cons hs'), ci_rng2 a2 b2 (imp_of hi)⟩
    · cases h
  | .enu a, X, C, T, x, tg, G, h => by
    unfold matI at h
    split at h
    · rename_i s p e q es k tp
      simp only [Bool.and_eq_true, decide_eq_true_eq] at h
      obtain ⟨⟨⟨⟨⟨h0, hg⟩, hb⟩, hs⟩, hA⟩, h1⟩ := h
      subst h0
      obtain ⟨g1, _, _⟩ := glb_of G.sc hg
      obtain ⟨⟨ta, a1, a2⟩, _⟩ := simE a e G h1
      refine ⟨_, pi_or (pi_enum g1 (G.bls _ hb) (pa_cons a1 pa_nil (star_cons hs)) (star_cons hs)) (pi_enumS g1 (G.bls _ hb) (pa_cons a1 pa_nil (star_cons hs)) (star_cons hs)), ?_⟩
      rw [G.K]
      exact ci_enu a2 (bnot hA)
    · cases h
  | .zip a b, X, C, T, x, tg, G, h => by
    unfold matI at h
    split at h
    · rename_i s p e e' q es k tp
      simp only [Bool.and_eq_true, decide_eq_true_eq] at h
      obtain ⟨⟨⟨⟨⟨⟨⟨⟨h0, hg⟩, hb⟩, hs⟩, hs'⟩, hA⟩, hB⟩, h1⟩, h2⟩ := h
      subst h0
      obtain ⟨g1, _, _⟩ := glb_of G.sc hg
      obtain ⟨⟨ta, a1, a2⟩, _⟩ := simE a e G h1
      obtain ⟨⟨tb, b1, b2⟩, _⟩ := simE b e' G h2
      have hp : (backTo q (starEach [e'] X.env)).any (·.1) = false := star_plain (by simp [hs'])
      refine ⟨_, pi_zipB g1 (G.bls _ hb) (pa_cons a1 (pa_cons b1 pa_nil (star_cons hs')) (star_cons hs)) (star_cons hs) hp, ?_⟩
      rw [G.K]
      exact ci_zip a2 b2 (bnot hA) (bnot hB)
    · cases h
theorem simP : ∀ (p : LP) {X : Cx} {C : Cz} {T : Tb} (x : Expr), Good X C T → matP p T x = true → ∃ t, PE X x t ∧ CompP C p t
  | .s i, X, C, T, x, G, h => by
    unfold matP at h
    exact ⟨_, (simV G h).1, cp_s⟩
  | .ix p a, X, C, T, x, G, h => by
    unfold matP at h
    split at h
    · rename_i l s q
      simp only [Bool.and_eq_true] at h
      obtain ⟨⟨⟨hs, hpu⟩, h1⟩, h2⟩ := h
      obtain ⟨tp, a1, a2⟩ := simP p l G h1
      obtain ⟨⟨ta, b1, b2⟩, _⟩ := simE a s G h2
      have hu := G.un
      exact ⟨_, pe_ix (by rw [← G.K]; exact op_ixP (by omega)) a1 b1 (plain_ix hs), cp_ix a2 b2 hpu⟩
    · cases h
  | .fl p f, X, C, T, x, G, h => by simp [matP] at h
end
end Z

set_option Elab.async false
set_option linter.all false
set_option maxRecDepth 100000
set_option maxHeartbeats 8000000
/-! Z15: which terms stand for which statements. -/
namespace Z
open PySem L2 PyProof.Rows

def fnKind (sc : Scope) : Bool := match sc.kind with
  | .function => true
  | _ => false
/-- no exchange of stores -/
def notLoc (T : Tb) : Expr → Bool
  | .Name x _ => decide (T.sc.names.lookup x ≠ some .local)
  | _ => true
def swNo (T : Tb) (tg v : Expr) : Bool := match tg, v with
  | .Tuple ts _ _, .Tuple vs _ _ => !(ts.length == 2 || ts.length == 3) || vs.all (foldedForSure 8) || ts.any (notLoc T)
  | .List _ _, _ => false
  | _, _ => true
def parOk (T : Tb) (ts vs : List Expr) : Bool := !T.hot && fnKind T.sc && vs.all nstar && !vs.all (foldedForSure 8) && !vs.all (constantsAlone 8) && (match ts with
  | [.Name x p, .Name y q] => q.line == p.line && x != y && decide (T.sc.names.lookup x = some .local) && decide (T.sc.names.lookup y = some .local)
  | [.Name x p, .Name y q, .Name z r] => q.line == p.line && r.line == p.line && x != y && x != z && y != z && decide (T.sc.names.lookup x = some .local) && decide (T.sc.names.lookup y = some .local) && decide (T.sc.names.lookup z = some .local)
  | _ => false) && ts.length == vs.length
/-- the comprehension is stored as it stands -/
def setLc (T : Tb) (tg v : Expr) : Bool := !T.hot && match tg, v with
  | .Name y py, .ListComp _ _ scope pos => fnKind T.sc && decide (T.sc.names.lookup y = some .local) && py.line == pos.line && !(scope.names.any fun (n, k) => n == y && (k == .local || k == .cell))
  | _, _ => false
/-- .. or like any value -/
def noLc (tg v : Expr) : Bool := match tg, v with
  | .Name y py, .ListComp _ _ scope pos => !(py.line == pos.line) || (scope.names.any fun (n, k) => n == y && (k == .local || k == .cell))
  | _, v => ncomp v
def isLc : LE → Bool
  | .lc _ _ _ _ _ => true
  | .fz (.lc _ _ _ _ _) => true
  | _ => false
/-- raises nothing, seen from its form -/
def simX : LE → Bool
  | .c _ => true | .v _ => true
  | .bin _ a b => simX a && simX b
  | _ => false
theorem simX_ok {phi : Nat → List PM → List D → FRes} : ∀ {a : LE}, simX a = true → ∀ e c d e', evE phi a e ≠ .xc c d e'
  | .c d, _, e, c, d', e' => by
    simp only [evE]
    split <;> intro z <;> cases z
  | .v i, _, e, c, d', e' => by
    simp only [evE]
    cases getS e i with
    | none => intro z; cases z
    | some d =>
      show (if fzn d = true then (Res.ok d e) else .bad) ≠ _
      split <;> intro z <;> cases z
  | .bin o a b, h, e, c, d', e' => by
    simp only [simX, Bool.and_eq_true] at h
    simp only [evE]
    cases h1 : evE phi a e with
    | xc c2 d2 e2 => exact absurd h1 (simX_ok h.1 e c2 d2 e2)
    | bad => intro z; cases z
    | ok x e1 =>
      show (evE phi b e1).andThen _ ≠ _
      cases h2 : evE phi b e1 with
      | xc c2 d2 e2 => exact absurd h2 (simX_ok h.2 e1 c2 d2 e2)
      | bad => intro z; cases z
      | ok y e2 =>
        show lift (binop o x y) e2 ≠ _
        cases binop o x y <;> intro z <;> cases z
mutual
def matS : LS → Tb → Stmt → Bool
  | .asg t a, T, st => (match st with
    | .Assign [tg] v pos => !isB a && matT T t tg && matE a T v && nstar tg && ((noLc tg v && swNo T tg v) || (isLc a && setLc T tg v) || (match t, a, tg, v with
      | .cons (.nm _) (.cons (.nm _) .nil), .tup _, .Tuple ts _ _, .Tuple vs _ _ => parOk T ts vs
      | .cons (.nm _) (.cons (.nm _) (.cons (.nm _) .nil)), .tup _, .Tuple ts _ _, .Tuple vs _ _ => parOk T ts vs
      | _, _, _, _ => false))
    | _ => false)
  | .aug i o a, T, st => (match st with
    | .AugAssign (.Name s _) op e _ => decide (T.N[i]? = some s) && locOk T s && decide (op = opB o) && matE a T e
    | _ => false)
  | .st p k a, T, st => (match st with
    | .Assign [.Subscript o i _] v _ => nsl i && ncomp v && pureE k && !isB a && matE a T v && matP p T o && matE k T i
    | _ => false)
  | .stk p k a, T, st => (match st with
    | .Assign [.Subscript o i _] v _ => nsl i && ncomp v && pureE k && !isB a && matE a T v && matP p T o && matE k T i
    | _ => false)
  | .stt p k a, T, st => (match st with
    | .Assign [.Subscript o i _] v _ => nsl i && ncomp v && pureE k && !isB a && matE a T v && matP p T o && matE k T i
    | _ => false)
  | .skA p k o a, T, st => (match st with
    | .AugAssign (.Subscript b i _) op e _ => nsl i && pureE k && pureE a && decide (op = opB o) && matE a T e && matP p T b && matE k T i
    | _ => false)
  | .stA p k o a, T, st => (match st with
    | .AugAssign (.Subscript b i _) op e _ => nsl i && pureE k && pureE a && decide (op = opB o) && matE a T e && matP p T b && matE k T i
    | _ => false)
  | .stl p lo hi a, T, st => (match st with
    | .Assign [.Subscript o (.Slice (some u) (some w) none _) _] v _ => ncomp v && pureE lo && pureE hi && simX hi && !isB a && matE a T v && matP p T o && matE lo T u && matE hi T w
    | _ => false)
  | .ex a, T, st => (match st with
    | .Expr e _ => ncomp e && matE a T e
    | _ => false)
  | .iff c a b, T, st => (match st with
    | .If t u w _ => tst c t && matE c T t && matB a T u && matB b T w
    | _ => false)
  | .whl c b, T, st => (match st with
    | .While t u [] _ => tst c t && matE c T t && matB b T u
    | _ => false)
  | .forr t s b, T, st => !T.hot && (match st with
    | .For tg it u [] _ => nset it && matT T t tg && matI s T it tg && matB b T u
    | _ => false)
  | .ret a, T, st => (match st with
    | .Return (some e) _ => !isB a && matE a T e
    | _ => false)
  | .retn, T, st => (match st with
    | .Return none _ => true
    | _ => false)
  | .brk, T, st => (match st with
    | .Break _ => true
    | _ => false)
  | .cnt, T, st => (match st with
    | .Continue _ => true
    | _ => false)
  | .ps, T, st => (match st with
    | .Pass _ => true
    | .Expr (.Constant (.str _) _ _) _ => true
    | _ => false)
  | .rse c a, T, st => (match st with
    | .Raise (some (.Call (.Name s _) [e] [] _)) none _ => decide (s = clsNm c) && decide (c ≠ 0) && glb T.sc s && decide (c ∈ T.ecs) && !T.hot && nstar e && matE a T e
    | _ => false)
  | .tryx b k i h, T, st => (match st with
    | .Try body [.ExceptHandler (some (.Name c _)) (some n) (s0 :: suite) _] [] [] _ => !T.hot && T.co && decide (c = clsNm k) && glb T.sc c && decide (k ∈ T.ecs) && decide (T.N[i]? = some n) && decide (T.sc.names.lookup n = some .local) &&
        matB b T body && matB h { T with hot := true, fns := T.hfn, kfns := [] } (s0 :: suite)
    | _ => false)
  | .bad, T, st => true
def matB : LB → Tb → List Stmt → Bool
  | .nil, T, l => l.isEmpty
  | .cons a r, T, l => (match l with
    | st :: l => matS a T st && matB r T l
    | [] => false)
end
theorem kind_of {sc : Scope} (h : fnKind sc = true) : sc.kind = .function := by
  unfold fnKind at h
  split at h
  · assumption
  · cases h
theorem block_fn {env : PySem.Env} (h : env.scope.kind = .function) : env.blockKind = .function := by unfold Env.blockKind; rw [h]; rfl
theorem fm_lt {α β : Type} {f : α → Option β} : ∀ {l : List α}, (∃ x ∈ l, f x = none) → (l.filterMap f).length < l.length
  | [], ⟨x, h, _⟩ => by cases h
  | a :: l, h => by
    rw [List.filterMap_cons]
    cases ha : f a with
    | none =>
      simp only [List.length_cons]
      exact Nat.lt_succ_of_le (List.length_filterMap_le _ _)
    | some b =>
      simp only [List.length_cons]
      obtain ⟨x, hx, hn⟩ := h
      rcases List.mem_cons.mp hx with rfl | hx
      · rw [ha] at hn; cases hn
      · exact Nat.succ_lt_succ (fm_lt ⟨x, hx, hn⟩)
theorem swNo_ok {T : Tb} {tg v : Expr} {env : PySem.Env} (he : env.scope = T.sc) (h : swNo T tg v = true) : swappedStores [tg] v env = pure none := by
  cases tg
  case Tuple ts k p =>
    cases v
    case Tuple vs k2 p2 =>
      unfold swNo at h
      rcases (Bool.or_eq_true _ _).mp h with h | h
      case inr =>
        unfold swappedStores
        simp only [pure_bind]
        split
        · rfl
        · split
          · rfl
          · have hlt := fm_lt (f := fun (e : Expr) => match e with
                | .Name id pos => if (env.kindOf id == some .local && pos.line == (ts.head?.map (·.pos.line)).getD 0) = true then some id else none
                | _ => none) (l := ts) (by
              obtain ⟨e, he1, he2⟩ := List.any_eq_true.mp h
              refine ⟨e, he1, ?_⟩
              cases e <;> first | rfl | skip
              rename_i x p
              simp only [notLoc, decide_eq_true_eq] at he2
              have : (env.kindOf x == some .local) = false := by
                show (env.scope.names.lookup x == some .local) = false
                rw [he]
                simpa using he2
              simp [this])
            have hne : ((ts.filterMap fun (e : Expr) => match e with
                | .Name id pos => if (env.kindOf id == some .local && pos.line == (ts.head?.map (·.pos.line)).getD 0) = true then some id else none
                | _ => none).length != ts.length) = true := by
              simp only [bne_iff_ne, ne_eq]
              omega
            exact (if_pos ((Bool.or_eq_true _ _).mpr (.inl hne))).trans rfl
      simp only [Bool.or_eq_true] at h
      unfold swappedStores
      simp only [pure_bind]
      rcases h with z | z
      · rw [z]; rfl
      · rw [z]
        split
        · rfl
        · split
          · rfl
          · split
            · rfl
            · rfl
    all_goals rfl
  case List es p => cases v <;> simp [swNo] at h
  all_goals rfl

theorem nstar_m {z : Expr} : nstar z = true → (match z with | .Starred .. => true | _ => false) = false := by
  cases z <;> first | (intro _; rfl) | (intro h; simp [nstar] at h)
theorem par_hot {T : Tb} {ts vs : List Expr} (h : parOk T ts vs = true) : T.hot = false := by
  unfold parOk at h
  simp only [Bool.and_eq_true, Bool.not_eq_true'] at h
  exact h.1.1.1.1.1.1
theorem par2_ok {T : Tb} {X : Cx} {C : Cz} (G : Good X C T) {x y : Str} {p q pt pt2 : Pos} {k k2 : Nat} {a b : Expr} (h : parOk T [.Name x p, .Name y q] [a, b] = true) :
    swappedStores [.Tuple [.Name x p, .Name y q] k pt] (.Tuple [a, b] k2 pt2) X.env = pure (some [x, y]) ∧ x ≠ y ∧ T.sc.names.lookup x = some .local ∧ T.sc.names.lookup y = some .local := by
  unfold parOk at h
  simp only [Bool.and_eq_true, bne_iff_ne, ne_eq, beq_iff_eq, Bool.not_eq_true'] at h
  obtain ⟨⟨⟨⟨⟨⟨hhot, h1⟩, h2⟩, h3⟩, h4⟩, ⟨⟨h5, h6⟩, hx⟩, hy⟩, _⟩ := h
  simp only [decide_eq_true_eq] at hx hy
  refine ⟨?_, h6, hx, hy⟩
  have hk := block_fn (env := X.env) (by rw [G.sc]; exact kind_of h1)
  have kx : X.env.kindOf x = some .local := by show X.env.scope.names.lookup x = _; rw [G.sc]; exact hx
  have ky : X.env.kindOf y = some .local := by show X.env.scope.names.lookup y = _; rw [G.sc]; exact hy
  unfold swappedStores
  simp only [pure_bind]
  simp only [List.all_cons, Bool.and_eq_true] at h2
  have hd : ([x, y] : List Str).eraseDups = [x, y] := by
    have : (y == x) = false := by simp; exact fun z => h6 z.symm
    simp [List.eraseDups, List.eraseDupsBy, List.eraseDupsBy.loop, this]
  simp only [hk, h3, h4]
  simp [kx, ky, h5, Expr.pos, hd]
  intro z
  exfalso
  rcases z with z | z
  · exact absurd (z.symm.trans (nstar_m h2.1)) (by decide)
  · exact absurd (z.symm.trans (nstar_m h2.2.1)) (by decide)
theorem par3_ok {T : Tb} {X : Cx} {C : Cz} (G : Good X C T) {x y w : Str} {p q r pt pt2 : Pos} {k k2 : Nat} {a b c : Expr} (h : parOk T [.Name x p, .Name y q, .Name w r] [a, b, c] = true) :
    swappedStores [.Tuple [.Name x p, .Name y q, .Name w r] k pt] (.Tuple [a, b, c] k2 pt2) X.env = pure (some [x, y, w]) ∧ x ≠ y ∧ x ≠ w ∧ y ≠ w ∧ T.sc.names.lookup x = some .local ∧ T.sc.names.lookup y = some .local ∧ T.sc.names.lookup w = some .local := by
  unfold parOk at h
  simp only [Bool.and_eq_true, bne_iff_ne, ne_eq, beq_iff_eq, Bool.not_eq_true'] at h
  obtain ⟨⟨⟨⟨⟨⟨hhot, h1⟩, h2⟩, h3⟩, h4⟩, ⟨⟨⟨⟨⟨⟨h5, h5'⟩, h6⟩, h7⟩, h8⟩, hx⟩, hy⟩, hw⟩, _⟩ := h
  simp only [decide_eq_true_eq] at hx hy hw
  refine ⟨?_, h6, h7, h8, hx, hy, hw⟩
  have hk := block_fn (env := X.env) (by rw [G.sc]; exact kind_of h1)
  have kx : X.env.kindOf x = some .local := by show X.env.scope.names.lookup x = _; rw [G.sc]; exact hx
  have ky : X.env.kindOf y = some .local := by show X.env.scope.names.lookup y = _; rw [G.sc]; exact hy
  have kw : X.env.kindOf w = some .local := by show X.env.scope.names.lookup w = _; rw [G.sc]; exact hw
  unfold swappedStores
  simp only [pure_bind]
  simp only [List.all_cons, Bool.and_eq_true] at h2
  have hd : ([x, y, w] : List Str).eraseDups = [x, y, w] := by
    have e1 : (y == x) = false := by simp; exact fun z => h6 z.symm
    have e2 : (w == x) = false := by simp; exact fun z => h7 z.symm
    have e3 : (w == y) = false := by simp; exact fun z => h8 z.symm
    simp [List.eraseDups, List.eraseDupsBy, List.eraseDupsBy.loop, e1, e2, e3]
  simp only [hk, h3, h4]
  simp [kx, ky, kw, h5, h5', Expr.pos, hd]
  intro z
  exfalso
  rcases z with z | z | z
  · exact absurd (z.symm.trans (nstar_m h2.1)) (by decide)
  · exact absurd (z.symm.trans (nstar_m h2.2.1)) (by decide)
  · exact absurd (z.symm.trans (nstar_m h2.2.2.1)) (by decide)
theorem noLc_ok {T : Tb} {X : Cx} {C : Cz} (G : Good X C T) {tg v : Expr} {l : Nat} (h : noLc tg v = true) : swapsWithSole [tg] v l X.env = pure false := by
  show swapsWith v (some tg) l X.env = pure false
  by_cases hv : ncomp v = true
  · exact swap_no hv
  · unfold noLc at h
    split at h
    · rename_i y py elt gs scope pos
      unfold swapsWith
      simp only [pure_bind]
      rcases (Bool.or_eq_true _ _).mp h with z | z
      · have : (py.line == pos.line) = false := by simpa using z
        simp [Expr.pos, this]
      · simp [z]
    · exact absurd h hv
theorem lc_ok {own : List Nat} {s : LI} {t : LT} {cd : LO} {a : LE} {X : Cx} {C : Cz} {T : Tb} {elt tg iter : Expr} {ifs : List Expr} {scope : Scope} {p : Pos} (G : Good X C T) (h : matE (.lc own s t cd a) T (.ListComp elt [⟨tg, iter, ifs, 0⟩] scope p) = true) :
    ∃ (wi : TI) (g : TG) (tt : TT) (te : TE), PI X tg iter wi ∧ BlkOk X.N X.env.scope scope (ownN T own) ∧ (∀ (s : Shared) (H : Hp) (A : Addr) (cl : List (Str × Addr)) (fp : List Addr), PG (X.blk s H scope (compEnvC scope cl A X.env) fp) tg g) ∧
      (∀ (s : Shared) (H : Hp) (A : Addr) (cl : List (Str × Addr)) (fp : List Addr), PTs (X.blk s H scope (compEnvC scope cl A X.env) fp) ifs tt) ∧ (∀ (s : Shared) (H : Hp) (A : Addr) (cl : List (Str × Addr)) (fp : List Addr), PE (X.blk s H scope (compEnvC scope cl A X.env) fp) elt te) ∧
      (∀ x, foldedSetIterable iter X.env x = pure x) ∧ CE1 C (.lc own s t cd a) (tLc wi g tt te own) := by
  unfold matE at h
  replace h := (Bool.and_eq_true_iff.mp h).2
  simp only [Bool.and_eq_true, List.all_eq_true, decide_eq_true_eq] at h
  obtain ⟨⟨⟨⟨⟨⟨⟨h0, hns⟩, hA⟩, hsl⟩, h1⟩, h2⟩, h3⟩, h4⟩ := h
  obtain ⟨wi, a1, a2⟩ := simI s iter tg G h1
  have ok := blkOk_by h0
  rw [← G.N, ← G.sc] at ok
  refine ⟨wi, gOf C.K t, tW C.nox RQ false (evC C.phi cd), tW C.nox (RV C.K (isB a)) (pureE a) (evE C.phi a), a1, ok, fun s H A cl fp => (simT (G.blk s H A cl fp) t tg h2).1, fun s H A cl fp => ?_, fun s H A cl fp => ?_, fold_no hns,
    comp_lc a2 (simT (G.blk X.s_0 X.H_0 0 [] []) t tg h2).2 comp_tW comp_tW (bnot hA) hsl⟩
  · obtain ⟨t, q1, q2⟩ := simCd cd ifs (G.blk s H A cl fp) h3
    exact ⟨fun pins s σ H Q I hw => q1.run pins s σ H Q I (q2.of_tW hw)⟩
  · obtain ⟨⟨t, q1, q2⟩, _⟩ := simE a elt (G.blk s H A cl fp) h4
    exact pe_of q2 q1
theorem matN {T : Tb} {i : Nat} {x : Str} {p : Pos} (h : matT T (.nm i) (.Name x p) = true) : T.N[i]? = some x ∧ locOk T x = true := by
  unfold matT at h
  simpa only [Bool.and_eq_true, decide_eq_true_eq] using h
theorem one_nm {T : Tb} {i : Nat} {x : Expr} (h : matT T (.nm i) x = true) : ∃ y p, x = .Name y p ∧ T.N[i]? = some y ∧ locOk T y = true := by
  unfold matT at h
  split at h
  · simp only [Bool.and_eq_true, decide_eq_true_eq] at h
    exact ⟨_, _, rfl, h⟩
  · cases h
theorem two_nm {T : Tb} {i j : Nat} {ts : List Expr} {k : Nat} {p : Pos} (h : matT T (.cons (.nm i) (.cons (.nm j) .nil)) (.Tuple ts k p) = true) :
    ∃ x px y py, ts = [.Name x px, .Name y py] ∧ T.N[i]? = some x ∧ locOk T x = true ∧ T.N[j]? = some y ∧ locOk T y = true := by
  unfold matT at h
  replace h := (Bool.and_eq_true_iff.mp h).2
  simp only [] at h
  match ts, h with
  | [], h => simp [matTs] at h
  | [_], h => simp [matTs] at h
  | [a, b], h =>
    simp only [matTs, Bool.and_eq_true] at h
    obtain ⟨x, px, rfl, n1, n2⟩ := one_nm h.1.2
    obtain ⟨y, py, rfl, m1, m2⟩ := one_nm h.2.1.2
    exact ⟨x, px, y, py, rfl, n1, n2, m1, m2⟩
  | _ :: _ :: _ :: _, h => simp [matTs] at h
theorem three_nm {T : Tb} {i j l : Nat} {ts : List Expr} {k : Nat} {p : Pos} (h : matT T (.cons (.nm i) (.cons (.nm j) (.cons (.nm l) .nil))) (.Tuple ts k p) = true) :
    ∃ x px y py z pz, ts = [.Name x px, .Name y py, .Name z pz] ∧ T.N[i]? = some x ∧ locOk T x = true ∧ T.N[j]? = some y ∧ locOk T y = true ∧ T.N[l]? = some z ∧ locOk T z = true := by
  unfold matT at h
  replace h := (Bool.and_eq_true_iff.mp h).2
  simp only [] at h
  match ts, h with
  | [], h => simp [matTs] at h
  | [_], h => simp [matTs] at h
  | [_, _], h => simp [matTs] at h
  | [a, b, c], h =>
    simp only [matTs, Bool.and_eq_true] at h
    obtain ⟨x, px, rfl, n1, n2⟩ := one_nm h.1.2
    obtain ⟨y, py, rfl, m1, m2⟩ := one_nm h.2.1.2
    obtain ⟨z, pz, rfl, l1, l2⟩ := one_nm h.2.2.1.2
    exact ⟨x, px, y, py, z, pz, rfl, n1, n2, m1, m2, l1, l2⟩
  | _ :: _ :: _ :: _ :: _, h => simp [matTs] at h
section
variable {X : Cx} {C : Cz} {T : Tb}
theorem sim_asg (G : Good X C T) {t : LT} {a : LE} {st : Stmt} (h : matS (.asg t a) T st = true) : ∃ u, PS X st u ∧ CompS C u (evS C.phi C.wf (.asg t a)) := by
  unfold matS at h
  split at h
  · rename_i tg v pos
    simp only [Bool.and_eq_true] at h
    obtain ⟨⟨⟨⟨hB, h1⟩, h2⟩, h3⟩, h4⟩ := h
    rcases (Bool.or_eq_true _ _).mp h4 with h4 | h4
    · rcases (Bool.or_eq_true _ _).mp h4 with h4 | h4
      · simp only [Bool.and_eq_true] at h4
        obtain ⟨⟨ta, a1, a2⟩, _⟩ := simE a v G h2
        obtain ⟨g1, g2⟩ := simT G t tg h1
        exact ⟨_, ps_asg a1 g1 (noLc_ok G h4.1) (swNo_ok G.sc h4.2) (by rw [assign_cons h3]; rfl), cs_asg a2 g2 (bnot hB)⟩
      · simp only [Bool.and_eq_true] at h4
        obtain ⟨hlc, h4⟩ := h4
        unfold setLc at h4
        have hh : T.hot = false := by simpa using (Bool.and_eq_true_iff.mp h4).1
        replace h4 := (Bool.and_eq_true_iff.mp h4).2
        split at h4
        · rename_i y py elt gs scope lp _ _
          simp only [Bool.and_eq_true, beq_iff_eq, Bool.not_eq_true'] at h4
          obtain ⟨⟨⟨hk, hloc⟩, hl⟩, hn⟩ := h4
          simp only [decide_eq_true_eq] at hloc
          have main : ∀ {own : List Nat} {s : LI} {t2 : LT} {cd : LO} {a : LE}, matE (.lc own s t2 cd a) T (.ListComp elt gs scope lp) = true →
              ∃ te i, t = .nm i ∧ PS X (.Assign [.Name y py] (.ListComp elt gs scope lp) pos) (tAsg te (gName i)) ∧ CE1 C (.lc own s t2 cd a) te := by
            intro own s t2 cd a h2
            have h2' := h2
            unfold matE at h2'
            replace h2' := (Bool.and_eq_true_iff.mp h2').2
            split at h2'
            · rename_i e0 tg iter ifs sc0 p hgs
              cases hgs
              obtain ⟨wi, g, tt, te, q1, q2, q3, q4, q5, q6, q7⟩ := lc_ok G h2
              cases t with
              | nm i =>
                obtain ⟨n1, n2⟩ := matN h1
                have hsw : swapsWith (.ListComp elt [⟨tg, iter, ifs, 0⟩] scope lp) (some (.Name y py)) pos.line X.env = pure true :=
                  sw_true (by rw [G.sc]; exact kind_of hk) (by rw [G.sc]; exact hloc) (by simpa using hl) hn
                have k := ps_setLc (i := i) (G.calm hh) (by rw [G.N]; exact G.nd) (by rw [G.N]; exact n1) (by rw [G.sc]; exact hloc) hsw q1 q2 q3 q4 q5 q6
                rw [own_map] at k
                exact ⟨_, i, rfl, k, q7⟩
              | nil => simp [matT] at h1
              | cons _ _ => simp [matT] at h1
            · cases h2'
          unfold isLc at hlc
          split at hlc
          · obtain ⟨te, i, rfl, k1, k2⟩ := main h2
            exact ⟨_, k1, cs_asg k2 ct_nm rfl⟩
          · have h3 := h2
            unfold matE at h3
            simp only [Bool.and_eq_true] at h3
            obtain ⟨te, i, rfl, k1, k2⟩ := main h3.2
            exact ⟨_, k1, cs_asg (comp_fz k2) ct_nm rfl⟩
          · cases hlc
        · cases h4
    · split at h4
      · rename_i i j es ts k p vs k2 p2 _
        obtain ⟨x, px, y, py, rfl, n1, n2, m1, m2⟩ := two_nm h1
        have h2' := h2
        unfold matE at h2'
        simp only [Bool.and_eq_true] at h2'
        obtain ⟨ta, a1, a2, _⟩ := (simL es vs G h2'.2).1 h2'.1
        have hl : vs.length = 2 := by
          unfold parOk at h4
          simp only [Bool.and_eq_true, beq_iff_eq] at h4
          exact h4.2.symm
        match vs, hl with
        | [a, b], _ =>
          have hh := par_hot h4
          obtain ⟨w, hne, n2, m2⟩ := par2_ok (k := k) (k2 := k2) (pt := p) (pt2 := p2) G h4
          refine ⟨_, ps_par (i := i) (j := j) (G.calm hh) (by rw [G.N]; exact G.nd) (by rw [G.N]; exact n1) (by rw [G.N]; exact m1) (fun e => ?_) (by rw [G.sc]; exact n2) (by rw [G.sc]; exact m2) a1 w rfl, cs_par a2⟩
          subst e
          rw [n1] at m1
          exact hne (Option.some.inj m1)
      · rename_i i j l es ts k p vs k2 p2 _
        obtain ⟨x, px, y, py, z, pz, rfl, n1, n2, m1, m2, l1, l2⟩ := three_nm h1
        have h2' := h2
        unfold matE at h2'
        simp only [Bool.and_eq_true] at h2'
        obtain ⟨ta, a1, a2, _⟩ := (simL es vs G h2'.2).1 h2'.1
        have hl : vs.length = 3 := by
          unfold parOk at h4
          simp only [Bool.and_eq_true, beq_iff_eq] at h4
          exact h4.2.symm
        match vs, hl with
        | [a, b, c], _ =>
          have hh := par_hot h4
          obtain ⟨w, e1, e2, e3, n2, m2, l2⟩ := par3_ok (k := k) (k2 := k2) (pt := p) (pt2 := p2) G h4
          refine ⟨_, ps_par3 (i := i) (j := j) (l := l) (G.calm hh) (by rw [G.N]; exact G.nd) (by rw [G.N]; exact n1) (by rw [G.N]; exact m1) (by rw [G.N]; exact l1) (fun e => ?_) (fun e => ?_) (fun e => ?_) (by rw [G.sc]; exact n2) (by rw [G.sc]; exact m2) (by rw [G.sc]; exact l2) a1 w rfl, cs_par3 a2⟩
          · subst e
            rw [n1] at m1
            exact e1 (Option.some.inj m1)
          · subst e
            rw [n1] at l1
            exact e2 (Option.some.inj l1)
          · subst e
            rw [m1] at l1
            exact e3 (Option.some.inj l1)
      · cases h4
  · cases h
theorem sub_plain {o i : Expr} {p : Pos} {env : PySem.Env} (h : nsl i = true) : ∀ v, assign (.Subscript o i p) env v = (do
      let ov ← holding [v] (eval o env)
      let iv ← holding [v, ov] (eval i env)
      standAt p
      holding [v, ov, iv] (setItem ov iv v)
      release [v, ov, iv] []) := by
  intro v
  cases i <;> first | rfl | simp [nsl] at h
theorem aug_plain {i : Expr} (h : nsl i = true) : ∀ ov iv new, augStore i ov iv new = (do holding [new, ov, iv] (setItem ov iv new); release [new, ov, iv] []; pure .next) := by
  intro ov iv new
  cases i <;> first | rfl | simp [nsl] at h
end
theorem Good.tr {X : Cx} {C : Cz} {T : Tb} (G : Good X C T) (pn : List (Addr × Obj)) {xe : Value → Shared → Prop} {W : WX} (tk : Takes (X.tr pn xe) W) : Good (X.tr pn xe) (C.wish W) T where
  N := G.N
  sc := G.sc
  K := G.K
  nd := G.nd
  calm := G.calm
  gd := G.gd
  un := G.un
  tk := tk
  fns := G.fns
  gls := G.gls
  bls := G.bls
  kfns := G.kfns
  fnx := G.fnx
  hfn := G.hfn
  ecs := G.ecs
  rm := G.rm
  stk := G.stk
theorem Good.warm {X : Cx} {C : Cz} {T : Tb} (G : Good X C T) (a : Addr) : Good (hotX X a) C.nox { T with hot := true, fns := T.hfn, kfns := [] } where
  N := G.N
  sc := G.sc
  K := G.K
  nd := G.nd
  calm := fun h => by cases h
  gd := G.gd
  un := G.un
  tk := fun u s' ⟨_, _, _, _, _, _, _, _, _, _, _, _, _, _, _, _, w⟩ => w.elim
  fns := fun x i ps h => by
    obtain ⟨f, fd, k, h1, h2, h3, h4, h5⟩ := G.hfn x i ps h
    exact ⟨f, fd, k, h1, h2, h3, ⟨fun z => (by cases z), h4.dp, h4.un⟩, h5⟩
  gls := G.gls
  bls := G.bls
  kfns := fun x ks i pm n h => absurd h List.not_mem_nil
  fnx := G.fnx
  hfn := fun x i ps h => by
    obtain ⟨f, fd, k, h1, h2, h3, h4, h5⟩ := G.hfn x i ps h
    exact ⟨f, fd, k, h1, h2, h3, ⟨fun z => (by cases z), h4.dp, h4.un⟩, h5⟩
  ecs := G.ecs
  rm := by
    obtain ⟨k, r⟩ := G.rm
    exact ⟨k, ⟨fun z => (by cases z), r.dp, r.un⟩⟩
  stk := G.stk
mutual
theorem simS : ∀ (a : LS) {X : Cx} {C : Cz} {T : Tb} (st : Stmt), Good X C T → PassesOwn (model X.prog X.w) X.A X.env X.xe → matS a T st = true → ∃ u, PS X st u ∧ CompS C u (evS C.phi C.wf a)
  | .asg t a, X, C, T, st, G, O, h => sim_asg G h
  | .aug i o a, X, C, T, st, G, O, h => by
    unfold matS at h
    split at h
    · rename_i s p op e q
      simp only [Bool.and_eq_true, decide_eq_true_eq] at h
      obtain ⟨⟨⟨h1, h2⟩, h3⟩, h4⟩ := h
      subst h3
      obtain ⟨⟨ta, a1, a2⟩, _⟩ := simE a e G h4
      refine ⟨_, ps_aug (i := i) (by rw [G.N]; exact G.nd) (by rw [G.N]; exact h1) (loc_ok G h2).1 a1 (ip_iop o) (loc_ok G h2).2, ?_⟩
      rw [G.K]
      exact cs_aug a2
    · cases h
  | .st p k a, X, C, T, st, G, O, h => by
    unfold matS at h
    split at h
    · rename_i o i p1 v p2
      simp only [Bool.and_eq_true] at h
      obtain ⟨⟨⟨⟨⟨⟨h1, h2⟩, h3⟩, h4⟩, h5⟩, h6⟩, h7⟩ := h
      obtain ⟨⟨ta, a1, a2⟩, _⟩ := simE a v G h5
      obtain ⟨tp, b1, b2⟩ := simP p o G h6
      obtain ⟨⟨tk, c1, c2⟩, _⟩ := simE k i G h7
      refine ⟨_, ps_asg a1 (pg_sub b1 c1 set_list (sub_plain h1)) (by exact (swap_no h2 : swapsWith v (some (.Subscript o i p1)) p2.line X.env = pure false)) ?_ rfl, cs_st a2 b2 c2 h3 (bnot h4)⟩
      rfl
    · cases h
  | .stk p k a, X, C, T, st, G, O, h => by
    unfold matS at h
    split at h
    · rename_i o i p1 v p2
      simp only [Bool.and_eq_true] at h
      obtain ⟨⟨⟨⟨⟨⟨h1, h2⟩, h3⟩, h4⟩, h5⟩, h6⟩, h7⟩ := h
      obtain ⟨⟨ta, a1, a2⟩, _⟩ := simE a v G h5
      obtain ⟨tp, b1, b2⟩ := simP p o G h6
      obtain ⟨⟨tk, c1, c2⟩, _⟩ := simE k i G h7
      refine ⟨_, ps_asg a1 (pg_sub b1 c1 (set_dict (by have := G.un; omega)) (sub_plain h1)) (by exact (swap_no h2 : swapsWith v (some (.Subscript o i p1)) p2.line X.env = pure false)) ?_ rfl, cs_stk a2 b2 c2 h3 (bnot h4)⟩
      rfl
    · cases h
  | .stt p k a, X, C, T, st, G, O, h => by
    unfold matS at h
    split at h
    · rename_i o i p1 v p2
      simp only [Bool.and_eq_true] at h
      obtain ⟨⟨⟨⟨⟨⟨h1, h2⟩, h3⟩, h4⟩, h5⟩, h6⟩, h7⟩ := h
      obtain ⟨⟨ta, a1, a2⟩, _⟩ := simE a v G h5
      obtain ⟨tp, b1, b2⟩ := simP p o G h6
      obtain ⟨⟨tk, c1, c2⟩, _⟩ := simE k i G h7
      refine ⟨_, ps_asg a1 (pg_sub b1 c1 (set_td (by have := G.un; omega)) (sub_plain h1)) (by exact (swap_no h2 : swapsWith v (some (.Subscript o i p1)) p2.line X.env = pure false)) ?_ rfl, ?_⟩
      · rfl
      · rw [G.K]
        exact cs_stt a2 b2 c2 h3 (bnot h4)
    · cases h
  | .stA p k o a, X, C, T, st, G, O, h => by
    unfold matS at h
    split at h
    · rename_i b i p1 op e p2
      simp only [Bool.and_eq_true, decide_eq_true_eq] at h
      obtain ⟨⟨⟨⟨⟨⟨h1, h2⟩, h3⟩, h4⟩, h5⟩, h6⟩, h7⟩ := h
      subst h4
      obtain ⟨⟨ta, a1, a2⟩, _⟩ := simE a e G h5
      obtain ⟨tp, b1, b2⟩ := simP p b G h6
      obtain ⟨⟨tk, c1, c2⟩, _⟩ := simE k i G h7
      refine ⟨_, ps_augS b1 c1 get_list a1 (ip_iop o) set_list (aug_plain h1), ?_⟩
      rw [G.K]
      exact cs_stA a2 b2 c2 h2 h3
    · cases h
  | .skA p k o a, X, C, T, st, G, O, h => by
    unfold matS at h
    split at h
    · rename_i b i p1 op e p2
      simp only [Bool.and_eq_true, decide_eq_true_eq] at h
      obtain ⟨⟨⟨⟨⟨⟨h1, h2⟩, h3⟩, h4⟩, h5⟩, h6⟩, h7⟩ := h
      subst h4
      obtain ⟨⟨ta, a1, a2⟩, _⟩ := simE a e G h5
      obtain ⟨tp, b1, b2⟩ := simP p b G h6
      obtain ⟨⟨tk, c1, c2⟩, _⟩ := simE k i G h7
      refine ⟨_, ps_augS b1 c1 (get_dict (by have := G.un; omega)) a1 (ip_iop o) (set_dict (by have := G.un; omega)) (aug_plain h1), ?_⟩
      rw [G.K]
      exact cs_skA a2 b2 c2 h2 h3
    · cases h
  | .stl p lo hi a, X, C, T, st, G, O, h => by
    unfold matS at h
    split at h
    · rename_i o u w p1 p2 v p3
      simp only [Bool.and_eq_true] at h
      obtain ⟨⟨⟨⟨⟨⟨⟨⟨h1, h2⟩, h3⟩, h4⟩, h5⟩, h6⟩, h7⟩, h8⟩, h9⟩ := h
      obtain ⟨⟨ta, a1, a2⟩, _⟩ := simE a v G h6
      obtain ⟨tp, b1, b2⟩ := simP p o G h7
      obtain ⟨⟨tl, c1, c2⟩, _⟩ := simE lo u G h8
      obtain ⟨⟨th, d1, d2⟩, _⟩ := simE hi w G h9
      exact ⟨_, ps_asg a1 (pg_sl b1 c1 d1) (by exact (swap_no h1 : swapsWith v (some (.Subscript o (.Slice (some u) (some w) none p1) p2)) p3.line X.env = pure false)) rfl rfl, cs_stl a2 b2 c2 d2 h2 h3 (simX_ok h4) (bnot h5)⟩
    · cases h
  | .ex a, X, C, T, st, G, O, h => by
    unfold matS at h
    split at h
    · rename_i e p
      simp only [Bool.and_eq_true] at h
      obtain ⟨⟨ta, a1, a2⟩, _⟩ := simE a e G h.2
      exact ⟨_, ps_expr a1 (swap_no h.1), cs_ex a2⟩
    · cases h
  | .iff c a b, X, C, T, st, G, O, h => by
    unfold matS at h
    split at h
    · rename_i t u w p
      simp only [Bool.and_eq_true] at h
      obtain ⟨⟨⟨h1, h2⟩, h3⟩, h4⟩ := h
      obtain ⟨_, k⟩ := simE c t G h2
      obtain ⟨tc, c1, c2⟩ := k h1
      obtain ⟨t1, b1, b2⟩ := simB a u G O h3
      obtain ⟨t2, d1, d2⟩ := simB b w G O h4
      exact ⟨_, ps_if c1 b1 d1, cs_iff c2 b2 d2⟩
    · cases h
  | .whl c b, X, C, T, st, G, O, h => by
    unfold matS at h
    split at h
    · rename_i t u p
      simp only [Bool.and_eq_true] at h
      obtain ⟨⟨h1, h2⟩, h3⟩ := h
      obtain ⟨_, k⟩ := simE c t G h2
      obtain ⟨tc, c1, c2⟩ := k h1
      obtain ⟨t1, b1, b2⟩ := simB b u G O h3
      exact ⟨_, ps_while O c1 b1, cs_whl c2 b2⟩
    · cases h
  | .forr t s b, X, C, T, st, G, O, h => by
    unfold matS at h
    have hh : T.hot = false := by simpa using (Bool.and_eq_true_iff.mp h).1
    replace h := (Bool.and_eq_true_iff.mp h).2
    split at h
    · rename_i tg it u p
      simp only [Bool.and_eq_true] at h
      obtain ⟨⟨⟨h1, h2⟩, h3⟩, h4⟩ := h
      obtain ⟨g1, g2⟩ := simT G t tg h2
      obtain ⟨wi, a1, a2⟩ := simI s it tg G h3
      obtain ⟨t1, b1, b2⟩ := simB b u G O h4
      exact ⟨_, ps_for O (G.calm hh) a1 g1 b1 (fold_no h1), cs_for a2 g2 b2⟩
    · cases h
  | .ret a, X, C, T, st, G, O, h => by
    unfold matS at h
    split at h
    · rename_i e p
      simp only [Bool.and_eq_true] at h
      obtain ⟨⟨ta, a1, a2⟩, _⟩ := simE a e G h.2
      exact ⟨_, ps_ret a1, cs_ret a2 (bnot h.1)⟩
    · cases h
  | .retn, X, C, T, st, G, O, h => by
    unfold matS at h
    split at h
    · exact ⟨_, ps_retN, cs_retn⟩
    · cases h
  | .brk, X, C, T, st, G, O, h => by
    unfold matS at h
    split at h
    · exact ⟨_, ps_break, cs_brk⟩
    · cases h
  | .cnt, X, C, T, st, G, O, h => by
    unfold matS at h
    split at h
    · exact ⟨_, ps_continue, cs_cnt⟩
    · cases h
  | .ps, X, C, T, st, G, O, h => by
    unfold matS at h
    split at h
    · exact ⟨_, ps_pass, cs_ps⟩
    · exact ⟨_, ps_doc, cs_ps⟩
    · cases h
  | .rse c a, X, C, T, st, G, O, h => by
    unfold matS at h
    split at h
    · rename_i s p e p2 p3
      simp only [Bool.and_eq_true, decide_eq_true_eq, Bool.not_eq_true'] at h
      obtain ⟨⟨⟨⟨⟨⟨rfl, hc⟩, hg⟩, hm⟩, hh⟩, hs⟩, h1⟩ := h
      obtain ⟨g1, g2, g3⟩ := glb_of G.sc hg
      obtain ⟨⟨ta, a1, a2⟩, _⟩ := simE a e G h1
      obtain ⟨k9, m1, m2, m3, xg⟩ := G.ecs c hm
      obtain ⟨xf, xk⟩ := m3.1 hc
      obtain ⟨kk, rm⟩ := G.rm
      rw [hh] at rm
      rw [G.K] at xk
      refine ⟨_, ps_rse xf xg (by simp) rm.room (G.calm hh) G.tk g1 m1 g3 a1 (star_cons hs), ?_⟩
      rw [G.K]
      exact cs_rse xk a2
    · cases h
  | .tryx b k i hb, X, C, T, st, G, O, h => by
    unfold matS at h
    split at h
    · rename_i body c np n s0 suite p1 p2
      simp only [Bool.and_eq_true, decide_eq_true_eq, Bool.not_eq_true'] at h
      obtain ⟨⟨⟨⟨⟨⟨⟨⟨hh, hco⟩, rfl⟩, hg⟩, hm⟩, hi⟩, hl⟩, h1⟩, h2⟩ := h
      obtain ⟨g1, g2, g3⟩ := glb_of G.sc hg
      obtain ⟨k9, m1, m2, m3, xg⟩ := G.ecs k hm
      obtain ⟨st1, st2⟩ := G.stk hco
      have nX : Names X (clsNm k) (clV C.K k) := by
        have : clV C.K k = .ref (caK X.K k) := by unfold clV; rw [if_neg (by omega), G.K]
        rw [this]
        exact ⟨g1, g3, .inl m1⟩
      rw [G.K] at m2
      refine ⟨_, ps_tryX (i := i) (n := n) (c := clV C.K k) (tb := fun W => tSW (C.wish W) (evB C.phi C.wf b)) (ts := tSW C.nox (evB C.phi C.wf hb)) (Wout := C.W) st1 st2 (by rw [G.N]; exact G.nd) (by rw [G.N]; exact hi) (by show X.env.scope.names.lookup n = _; rw [G.sc]; exact hl) nX G.tk (fun W pn xe tk O' => ?_) (fun a => ?_), ?_⟩
      · obtain ⟨t1, b1, b2⟩ := simB b (X := X.tr pn xe) (C := C.wish W) (T := T) body (G.tr pn tk) O' h1
        exact pss_of b2 b1
      · obtain ⟨t1, b1, b2⟩ := simB hb (X := hotX X a) (C := C.nox) (T := { T with hot := true, fns := T.hfn, kfns := [] }) (s0 :: suite) (G.warm a) PassesOwn.never h2
        exact pss_of b2 b1
      · rw [G.K]
        exact cs_tryx (.inr ⟨k9, m2⟩)
    · cases h
  | .bad, X, C, T, st, G, O, h => ⟨tNever, ps_never, cs_bad⟩
theorem simB : ∀ (a : LB) {X : Cx} {C : Cz} {T : Tb} (l : List Stmt), Good X C T → PassesOwn (model X.prog X.w) X.A X.env X.xe → matB a T l = true → ∃ u, PSs X l u ∧ CompS C u (evB C.phi C.wf a)
  | .nil, X, C, T, l, G, O, h => by
    unfold matB at h
    have := lst2 h
    subst this
    exact ⟨_, pss_nil, cb_nil⟩
  | .cons a r, X, C, T, l, G, O, h => by
    unfold matB at h
    cases l with
    | nil => simp at h
    | cons st l =>
      simp only [Bool.and_eq_true] at h
      obtain ⟨t1, a1, a2⟩ := simS a st G O h.1
      obtain ⟨t2, b1, b2⟩ := simB r l G O h.2
      exact ⟨_, pss_cons a1 b1, cb_cons a2 b2⟩
end
end Z

set_option Elab.async false
set_option linter.all false
set_option maxRecDepth 100000
set_option maxHeartbeats 8000000
/-! Z16: defs by their bodies; the law's end. -/
namespace Z
open PySem PySem.Spec L2 PyProof.Rows

section
variable {K : PySem.W.Frag} {F H : Hp} {fb : List Addr}
theorem env_in : ∀ {ms : List PM} {vs : List V} {ds : List D} {fp : List Addr} {e : Env}, ArgsR K F H fb ms vs ds fp → env0 ms ds = some e → EnvR K F H fb (vs.map some) (vs.map some) e fp
  | _, _, _, _, e, .nil, h => by
    simp only [env0, Option.some.injEq] at h; subst h
    exact .nil
  | _, _, _, _, e, .val ro r, h => by
    simp only [env0, Option.map_eq_some_iff] at h
    obtain ⟨e1, h1, rfl⟩ := h
    exact .fr ro (env_in r h1)
  | _, _, _, _, e, .io ro r, h => by
    simp only [env0, Option.map_eq_some_iff] at h
    obtain ⟨e1, h1, rfl⟩ := h
    exact .pn ro (env_in r h1)
  | _, _, _, _, e, .bo ro z r, h => by
    simp only [env0, Option.map_eq_some_iff] at h
    obtain ⟨e1, h1, rfl⟩ := h
    exact .bo ro z (env_in r h1)
theorem env_no : ∀ n : Nat, EnvR K F H fb (List.replicate n none) (List.replicate n none) (List.replicate n .no) []
  | 0 => .nil
  | n + 1 => .no (env_no n)
theorem env_more (n : Nat) : ∀ {s0 s : L2.St} {e : Env} {fp : List Addr}, EnvR K F H fb s0 s e fp → EnvR K F H fb (s0 ++ List.replicate n none) (s ++ List.replicate n none) (e ++ List.replicate n .no) fp
  | _, _, _, _, .nil => env_no n
  | _, _, _, _, .no r => .no (env_more n r)
  | _, _, _, _, .fr h r => .fr h (env_more n r)
  | _, _, _, _, .pn h r => .pn h (env_more n r)
  | _, _, _, _, .bo h z r => .bo h z (env_more n r)
theorem env_out : ∀ {ms : List PM} {vs : List V} {rest s : L2.St} {e : Env} {fp : List Addr} {os : List (Option D)}, EnvR K F H fb (vs.map some ++ rest) s e fp → vs.length = ms.length → outs ms e = some os → ∃ fo, OutR K F H ms vs os fo ∧ NS fo fp
  | [], [], _, _, _, _, os, er, _, h => by
    simp only [outs, Option.some.injEq] at h; subst h
    exact ⟨[], .nil, ⟨(fun _ z => by cases z), fun _ => List.nodup_nil⟩⟩
  | [], _ :: _, _, _, _, _, _, _, hl, _ => by simp at hl
  | _ :: _, [], _, _, _, _, _, _, hl, _ => by simp at hl
  | m :: ms, v :: vs, rest, s, e, fp, os, er, hl, h => by
    have hl' : vs.length = ms.length := by simpa using hl
    cases er with
    | no r =>
      cases m <;> simp only [outs, reduceCtorEq, Option.map_eq_some_iff] at h
      · obtain ⟨o1, h1, rfl⟩ := h
        obtain ⟨fo, a, b⟩ := env_out r hl' h1
        exact ⟨fo, .val a, b⟩
      · obtain ⟨o1, h1, rfl⟩ := h
        obtain ⟨fo, a, b⟩ := env_out r hl' h1
        exact ⟨fo, .bo a, b⟩
    | fr ro r =>
      cases m <;> simp only [outs, reduceCtorEq, Option.map_eq_some_iff] at h
      · obtain ⟨o1, h1, rfl⟩ := h
        obtain ⟨fo, a, b⟩ := env_out r hl' h1
        exact ⟨fo, .val a, b.trans (.dropL _ _)⟩
      · obtain ⟨o1, h1, rfl⟩ := h
        obtain ⟨fo, a, b⟩ := env_out r hl' h1
        exact ⟨fo, .bo a, b.trans (.dropL _ _)⟩
    | pn ro r =>
      cases m <;> simp only [outs, reduceCtorEq, Option.map_eq_some_iff] at h
      · obtain ⟨o1, h1, rfl⟩ := h
        obtain ⟨fo, a, b⟩ := env_out r hl' h1
        exact ⟨fo, .val a, b.trans (.dropL _ _)⟩
      · obtain ⟨o1, h1, rfl⟩ := h
        obtain ⟨fo, a, b⟩ := env_out r hl' h1
        exact ⟨_, .io ro a, b.left _⟩
      · obtain ⟨o1, h1, rfl⟩ := h
        obtain ⟨fo, a, b⟩ := env_out r hl' h1
        exact ⟨fo, .bo a, b.trans (.dropL _ _)⟩
    | bo ro z r =>
      cases m <;> simp only [outs, reduceCtorEq, Option.map_eq_some_iff] at h
      · obtain ⟨o1, h1, rfl⟩ := h
        obtain ⟨fo, a, b⟩ := env_out r hl' h1
        exact ⟨fo, .val a, b⟩
      · obtain ⟨o1, h1, rfl⟩ := h
        obtain ⟨fo, a, b⟩ := env_out r hl' h1
        exact ⟨fo, .bo a, b⟩
end
theorem body_post {C : Cz} {ms : List PM} {vs : List V} {rest : L2.St} {F H : Hp} {fp : List Addr} {Q : VK} {E : XK} (h0 : C.s0 = vs.map some ++ rest) (hl : vs.length = ms.length) (hW : ∀ cls d σ H, E cls d H → C.W cls d σ H) {r : Res Fl}
    (h : FPost C.K ms vs F H fp C.fb (endF ms r) Q E) : PostS C F H fp r { nx := fun _ H' => Q .non H', rt := Q } := by
  have out : ∀ {F' H' : Hp} {σ' : L2.St} {e' : Env} {fp' : List Addr} {os : List (Option D)}, EnvR C.K F' H' C.fb C.s0 σ' e' fp' → outs ms e' = some os → ∃ fo, OutR C.K F' H' ms vs os fo ∧ NS fo fp' := fun er ho => env_out (by rw [← h0]; exact er) hl ho
  cases r with
  | bad => exact h
  | xc c d e' =>
    simp only [endF] at h
    cases ho : outs ms e' with
    | none => rw [ho] at h; exact h.elim
    | some os =>
      rw [ho] at h
      intro F' H' σ' fp' cls dx g w er ⟨x1, x2, x3⟩
      obtain ⟨fo, a, b⟩ := out er ho
      exact hW _ _ _ _ (h F' H' fo cls dx (g.less b.1) (w.less b) a x1 x2 x3)
  | ok f e' =>
    simp only [endF] at h
    cases ho : outs ms e' with
    | none => rw [ho] at h; exact h.elim
    | some os =>
      rw [ho] at h
      cases f with
      | nx =>
        intro F' H' σ' fp' g w er
        obtain ⟨fo, a, b⟩ := out er ho
        exact h .non F' H' [] fo (g.less b.1) (w.less b) (.frz .non) a
      | rt d =>
        intro F' H' σ' v f fp' g w er ro
        obtain ⟨fo, a, b⟩ := out er ho
        exact h v F' H' f fo (g.less (b.left f).1) (w.less (b.left f)) ro a
      | bk => exact h.elim
      | ct => exact h.elim

/-- a def's context, perhaps within an except suite -/
def cxZ (hot : Bool) (CX : CXT) (P : Program) (w : World) (K : PySem.W.Frag) (mg : Str → Option Value) (base : Heap) (N : List Str) (qual : Str) (scope : Scope) (f : Addr) (cd : Value) (A : Around) (outer : List PySem.Env) (s : Shared) (H : Hp) (E : XK) : Cx :=
  { cxOf CX P w K mg base N qual scope f cd A outer s H E with calm := !hot }
theorem inv_startZ {hot : Bool} {CX : CXT} {P : Program} {w : World} {K : PySem.W.Frag} {mg : Str → Option Value} {base : Heap} {N ps : List Str} {qual : Str} {scope : Scope} {f : Addr} {cd : Value} {A : Around} {outer : List PySem.Env} {s s1 : Shared} {H : Hp} {E : XK} {us : List Value} {vs : List V}
    (S : FnScope N ps scope) (hd : hot = false → A.handled = none) (e0 : Env0 P w K mg base A outer s H) (hl : vs.length = ps.length) (r : Vals vs us)
    (x : InCallC s s.heap.objs.size (bindL (envOfC qual scope s.heap.objs.size f cd).kindOf (ps.zip us) fun _ => none) (cellsFrom (s.heap.objs.size + 1) scope.names []) (bindC (envOfC qual scope s.heap.objs.size f cd).kindOf (ps.zip us) fun _ => none) s1) :
    Inv (cxZ hot CX P w K mg base N qual scope f cd A outer s H E) [] (L2.start N vs) H s1 := by
  have hpl : ps.length ≤ N.length := by have := congrArg List.length S.pre; rw [List.length_take] at this; omega
  obtain ⟨h1, tk, rfl, hk⟩ := x.done
  have noA : ∀ b : Addr, b ∉ (cxZ hot CX P w K mg base N qual scope f cd A outer s H E).ex := fun b z => absurd (show b ∈ ([] : List Addr) from z) (by simp)
  refine ⟨⟨e0.mod, S.kind, rfl, rfl, Nat.le_refl _, fun y z c h1 h2 => ?_, fun y hy => ?_, fun y c _ h => ?_, (fun z => hd (by simpa [cxZ] using z)), Around.frames_deeper e0.frames, .inr ⟨rfl, rfl⟩, fun b z => absurd z (noA b), e0.bs, e0.bsz, fun b _ _ => noA b, fun b z => absurd z (noA b), e0.funs, e0.frf⟩,
    rfl, e0.bare, Un.kept hk, ⟨_, x.toInCall.ns, fun i y v h1 h2 h3 => ?_⟩, fun y c h => ⟨_, x.cell y c h⟩, e0.hok.fresh (Nat.le_refl _), fun y c h => ?_, fun p hp => absurd (show p ∈ ([] : List (Addr × Obj)) from hp) (by simp), e0.hok.kept hk, ?_⟩
  · exact name_of_addr x.apart (PySem.mem_of_lookup h1) (PySem.mem_of_lookup h2)
  · have hy : scope.names.lookup y = some .cell ∨ scope.names.lookup y = some .free := hy
    rcases hy with hy | hy
    · exact cell_has hy
    · exact absurd rfl (S.nofree _ (PySem.mem_of_lookup hy))
  · exact Nat.le_of_lt (x.above y c (PySem.mem_of_lookup h))
  · have hi : i < vs.length := by
      unfold L2.start at h2
      by_cases hi : i < vs.length
      · exact hi
      · rw [List.getElem?_append_right (by simpa using hi)] at h2
        rw [List.getElem?_replicate] at h2
        split at h2 <;> cases h2
    have ha : vs[i]? = some v := by
      unfold L2.start at h2
      rw [List.getElem?_append_left (by simpa using hi), List.getElem?_map] at h2
      cases e : vs[i]? with
      | none => rw [e] at h2; cases h2
      | some a => rw [e] at h2; cases h2; rfl
    obtain ⟨u, hu, rv⟩ := r.get ha
    have hp : ps[i]? = some y := by
      rw [← S.pre, List.getElem?_take_of_lt (by omega)]; exact h1
    have ndP : ps.Nodup := by rw [← S.pre]; exact S.nd.sublist (List.take_sublist _ _)
    refine ⟨u, rv, ?_⟩
    rcases S.par y (List.mem_of_getElem? hp) with k | k
    · exact .inl ⟨k, bindL_get ndP hp hu k⟩
    · obtain ⟨c, e⟩ := cell_has (n := s.heap.objs.size + 1) k
      refine .inr ⟨.inl k, c, e, ?_⟩
      have q := x.cell y c e
      rw [bindC_get ndP hp hu (by show scope.names.lookup y ≠ _; rw [k]; decide)] at q
      exact q
  · exact e0.hok.fresh (Nat.le_of_lt (x.above y c (PySem.mem_of_lookup h)))
  · unfold L2.start
    show _ = N.length
    rw [List.length_append, List.length_map, List.length_replicate]
    omega
/-- THE RULE: a def computes what its term says -/
theorem gfn_of {P : Program} {w : World} {K : PySem.W.Frag} {mg : Str → Option Value} {base : Heap} {n : Nat} {f : Addr} {x qual : Str} {params : Arguments} {body : List Stmt} {scope : Scope} {dvs : List V} {kws : List (Str × V)} {fd : FuncData} {T : Tb} {ps : List Str} {tbl : Nat → Option Fn} {wf i : Nat} {G : Fn}
    (Fd : FunD K x qual params body scope dvs kws f fd) (S : FnScope T.N ps scope) (hsc : T.sc = scope) (hG : tbl i = some G) (hio : G.io.length = ps.length) (hn : G.n = T.N.length) (hm : matB G.b T body = true)
    (fns : ∀ y j qs, (y, j, qs) ∈ T.fns → ∃ g gd, mg y = some (.ref g) ∧ PySem.W.keepIn K (.ref g) = true ∧ Binds K gd qs [] ∧ ∀ ms : List PM, ms.length = qs.length → GFn P w K mg base T.hot n g gd qs (spF K (run tbl wf n) j ms))
    (hfn : ∀ y j qs, (y, j, qs) ∈ T.hfn → ∃ g gd, mg y = some (.ref g) ∧ PySem.W.keepIn K (.ref g) = true ∧ Binds K gd qs [] ∧ ∀ ms : List PM, ms.length = qs.length → GFn P w K mg base true n g gd qs (spF K (run tbl wf n) j ms))
    (ecs : ∀ k ∈ T.ecs, k < 9 ∧ mg (clsNm k) = some (.ref (caK K k)) ∧ PySem.W.nsIn K mainGlobals (clsNm k) = some (some (.ref (caK K k))) ∧ ((k ≠ 0 → XcF P.main.file K (caK K k) ∧ XcK K k) ∧ (k = 0 → ZcK K T.ecs)) ∧ XcG P K)
    (gls : ∀ y d, (y, d) ∈ T.gls → ∃ v u, mg y = some u ∧ RelV v u ∧ ∀ F, Rf K F v d) (bls : ∀ y ∈ T.bls, mg y = none)
    (kfns : ∀ y ks j pm m, (y, ks, j, pm, m) ∈ T.kfns → ∃ g gd qs, mg y = some (.ref g) ∧ PySem.W.keepIn K (.ref g) = true ∧ KBinds K gd qs ks (gK Value .none m ks.length pm) (gK V .non m ks.length pm) ∧ GFn P w K mg base T.hot n g gd qs (spF K (run tbl wf n) j (pm.map fun _ => .val))) (ms : List PM) (hms : ms.length = ps.length) :
    GFn P w K mg base T.hot (n + 1) f fd ps (spF K (run tbl wf (n + 1)) i ms) := by
  have hlen : ∀ vs H Q E, spF K (run tbl wf (n + 1)) i ms vs H Q E → vs.length = ps.length := fun vs H Q E ⟨F, ds, fp, fb, wd, ar, _⟩ => by rw [ar.len.1, hms]
  obtain ⟨oc, od, dV, kV, doc, pm, an, cdv, ct, osl, rfl, lk, hcd, _, _⟩ := Fd.ex
  refine ⟨hlen, fun A outer s H args us vs Q E room gu env bd rel sp => ?_⟩
  have lenV := hlen _ _ _ _ sp
  have inK : K.In s.heap := env.mod.kin.keeps fun b o e => (env.bs b o e).1
  have noLim : s.heap.NoLimit := env.mod.nolimit.keeps fun b o e => (env.bs b o e).1
  have kinds : ∀ y ∈ ps.zip us, scope.names.lookup y.1 = some .local ∨ (scope.names.lookup y.1 = some .cell ∧ ((cellsFrom (s.heap.objs.size + 1) scope.names []).lookup y.1).isSome = true) := fun ⟨m, v⟩ hy => by
    rcases S.par m (List.of_mem_zip hy).1 with q | q
    · exact .inl q
    · exact .inr ⟨q, PySem.W.cellsFrom_some _ _ _ (.inl q)⟩
  refine codeAny_call_function room.depth (inK _ _ lk) rfl S.co S.gen rfl (PySem.W.codeRec_of inK hcd) (bd _ _ _ _ ?_)
  refine wpAny_newFunctionEnv_cells S.kind kinds fun e1 he s1 ic => ?_
  subst he
  refine ⟨noLim.keeps ic.toInCall.keep, codeAny_func ?_⟩
  let X : Cx := cxZ T.hot (L2.CX P w) P w K mg base T.N qual scope f cdv A outer s H E
  have I : Inv X [] (L2.start T.N vs) H s1 := inv_startZ S room.hd env lenV rel ic
  obtain ⟨F, ds, fp, fb, wd, ar, post⟩ := sp
  have hrun : run tbl wf (n + 1) i ms ds = runF (run tbl wf n) wf G ms ds := by show (match tbl i with | none => _ | some F => _) = _; rw [hG]
  rw [hrun] at post
  unfold runF at post
  by_cases hmi : ms = G.io
  · rw [if_pos hmi] at post
    subst hmi
    cases he0 : env0 G.io ds with
    | none => rw [he0] at post; exact post.elim
    | some e0 =>
      rw [he0] at post
      simp only [] at post
      let C : Cz := { K := K, W := fun cls d _ H' => E cls d H', phi := run tbl wf n, wf := wf, s0 := L2.start T.N vs, fb := fb }
      have rm : RoomZ T.hot (n + 1) X.A := room.deeper _
      have good : Good X C T :=
        { N := rfl, sc := hsc.symm, K := rfl, nd := S.nd, calm := fun h => by (show (!T.hot) = true; rw [h]; rfl), gd := gu
          un := by have := rm.un; omega
          tk := L2.takes_of (X := X) rfl rfl rfl rfl
          fns := fun y j qs hy => by
            obtain ⟨g, gd, h1, h2, h3, h4⟩ := fns y j qs hy
            exact ⟨g, gd, n, h1, h2, h3, rm, h4⟩
          gls := gls, bls := bls
          kfns := fun y ks j pm m hy => by
            obtain ⟨g, gd, qs, h1, h2, h3, h4⟩ := kfns y ks j pm m hy
            exact ⟨g, gd, qs, n, h1, h2, h3, rm, h4⟩
          fnx := fun _ _ => rfl
          hfn := fun y j qs hy => by
            obtain ⟨g, gd, h1, h2, h3, h4⟩ := hfn y j qs hy
            exact ⟨g, gd, n, h1, h2, h3, rm.warm, h4⟩
          ecs := ecs, rm := ⟨n, rm⟩, stk := fun _ => ⟨rfl, rfl⟩ }
      have own : PassesOwn (model X.prog X.w) X.A X.env X.xe := L2.passes_of (X := X) (K := fun e s'' => L2.CX P w outer H s E e s'') (E₁ := _) rfl
      obtain ⟨t, h1, h2⟩ := simB G.b body good own hm
      have lv := ar.len.1
      have er : EnvR K F H fb (L2.start T.N vs) (L2.start T.N vs) (e0 ++ List.replicate (G.n - G.io.length) .no) fp := by
        have := env_more (G.n - G.io.length) (env_in ar he0)
        unfold L2.start
        rw [hn, ← lv] at this ⊢
        exact this
      have hq : t { nx := fun _ H' => Q .non H', rt := Q } (L2.start T.N vs) H := h2 (L2.start T.N vs) H _ F fp _ er wd (body_post (C := C) (rest := List.replicate (T.N.length - vs.length) none) rfl lv (fun _ _ _ _ z => z) post)
      refine wpAny_mono (h1.run [] s1 (L2.start T.N vs) H _ I hq) (fun fl s' hs => ?_) fun e s' hs => hs
      have fin : ∀ {σ' : L2.St} {H' : Hp} {v : V} {u : Value}, Inv X [] σ' H' s' → RelV v u → Q v H' → CE outer P w H s Q u s' :=
        fun {σ' H' v u} J rv q => ⟨v, H', J.os, J.bare, J.base, J.hok, rv, q⟩
      cases fl with
      | ret u =>
        obtain ⟨v, σ', H', J, rv, q⟩ := hs
        exact fin J rv q
      | next =>
        obtain ⟨σ', H', J, q⟩ := hs
        exact fin (v := V.non) (u := Value.none) J rfl q
      | brk =>
        obtain ⟨_, _, _, q⟩ := hs
        exact False.elim q
      | cont =>
        obtain ⟨_, _, _, q⟩ := hs
        exact False.elim q
  · rw [if_neg hmi] at post; exact post.elim
theorem gfn_0 {P : Program} {w : World} {K : PySem.W.Frag} {mg : Str → Option Value} {base : Heap} {f : Addr} {fd : FuncData} {ps : List Str} {tbl : Nat → Option Fn} {wf i : Nat} {ms : List PM} {hot : Bool} : GFn P w K mg base hot 0 f fd ps (spF K (run tbl wf 0) i ms) :=
  ⟨fun vs H Q E ⟨_, _, _, _, _, _, post⟩ => post.elim, fun A outer s H args us vs Q E _ _ _ _ _ ⟨_, _, _, _, _, _, post⟩ => post.elim⟩
end Z

set_option Elab.async false
set_option linter.all false
set_option maxRecDepth 100000
set_option maxHeartbeats 8000000
/-! Z17: a whole program; the law's end. -/
namespace Z
open PySem PySem.Spec L2 PyProof.Rows

/-- one def of the row's top -/
structure DZ where
  nm : Str
  st : Stmt
  ps : List Str
  T : Tb
  ix : Nat
  F : Fn
def DZ.d (q : DZ) : He.DefD := ⟨(q.nm, none), q.nm, q.nm, defArgs q.st, defBody q.st, defScope q.st, [], []⟩
structure DOk (tbl : Nat → Option Fn) (FT : List (Str × Nat × List Str)) (GL : List (Str × D)) (BL : List Str) (KT : List (Str × List Str × Nat × List Nat × Nat)) (EC : List Nat) (HT : List (Str × Nat × List Str)) (q : DZ) : Prop where
  sc : FnScope q.T.N q.ps (defScope q.st)
  tsc : q.T.sc = defScope q.st
  tb : tbl q.ix = some q.F
  io : q.F.io.length = q.ps.length
  n : q.F.n = q.T.N.length
  m : matB q.F.b q.T (defBody q.st) = true
  fns : q.T.fns = if q.T.hot = true then [] else FT
  hfn : q.T.hfn = HT
  ecs : q.T.ecs = EC
  gls : q.T.gls = GL
  bls : q.T.bls = BL
  kfns : q.T.kfns = if q.T.hot = true then [] else KT
  ne : q.ps ≠ []
  kb : ∀ ks j pm m, (q.nm, ks, j, pm, m) ∈ KT → j = q.ix ∧ pm.length = q.ps.length ∧ ∀ (kV doc pmo : Value) (an : Option Addr) (cdv ct : Value) (us ws : List Value), us.length = m → ws.length = ks.length → bindArgs (PySem.W.fnOf q.nm q.nm (defArgs q.st) (defBody q.st) (defScope q.st) .none kV doc pmo an cdv ct) ⟨us, ks.zip ws⟩ = pure (q.ps.zip (pick .none pm (us ++ ws)))
  bd : ∀ (kV doc pm : Value) (an : Option Addr) (cdv ct : Value) (us : List Value), us.length = q.ps.length → bindArgs (PySem.W.fnOf q.nm q.nm (defArgs q.st) (defBody q.st) (defScope q.st) .none kV doc pm an cdv ct) ⟨us, []⟩ = pure (q.ps.zip us)
section
variable {P : Program} {w : World} {K : PySem.W.Frag} {mg : Str → Option Value} {h base : Heap} {fa : List He.Fa} {fn : List He.DefD} {tbl : Nat → Option Fn} {wf : Nat} {FT : List (Str × Nat × List Str)} {GL : List (Str × D)} {BL : List Str} {KT : List (Str × List Str × Nat × List Nat × Nat)} {EC : List Nat} {HT : List (Str × Nat × List Str)} {qs : List DZ}
theorem all_gfn (KX : K.In h) (G : h.Ns mainGlobals mg) (c : He.SaysD fa fn K) (ok : ∀ q ∈ qs, q.d ∈ fn ∧ DOk tbl FT GL BL KT EC HT q) (hFT : ∀ y j ps, (y, j, ps) ∈ FT → He.Fa.glo y ∈ fa ∧ ∃ q ∈ qs, q.nm = y ∧ q.ix = j ∧ q.ps = ps)
    (hKT : ∀ y ks j pm m, (y, ks, j, pm, m) ∈ KT → He.Fa.glo y ∈ fa ∧ ∃ q ∈ qs, q.nm = y)
    (hHT : ∀ y j ps, (y, j, ps) ∈ HT → He.Fa.glo y ∈ fa ∧ ∃ q ∈ qs, q.nm = y ∧ q.ix = j ∧ q.ps = ps ∧ q.T.hot = true)
    (hEC : ∀ k ∈ EC, k < 9 ∧ mg (clsNm k) = some (.ref (caK K k)) ∧ PySem.W.nsIn K mainGlobals (clsNm k) = some (some (.ref (caK K k))) ∧ ((k ≠ 0 → XcF P.main.file K (caK K k) ∧ XcK K k) ∧ (k = 0 → ZcK K EC)) ∧ XcG P K)
    (hGL : ∀ y d, (y, d) ∈ GL → ∃ v u, mg y = some u ∧ RelV v u ∧ ∀ F, Rf K F v d) (hBL : ∀ y ∈ BL, He.Fa.free y ∈ fa) :
    ∀ (n : Nat) (q : DZ), q ∈ qs → ∀ (fd : FuncData), FunD K q.nm q.nm (defArgs q.st) (defBody q.st) (defScope q.st) [] [] (He.ga K q.nm) fd → ∀ ms : List PM, ms.length = q.ps.length → GFn P w K mg base q.T.hot n (He.ga K q.nm) fd q.ps (spF K (run tbl wf n) q.ix ms)
  | 0, q, _, fd, _, ms, _ => gfn_0
  | n + 1, q, hq, fd, Fd, ms, hms => by
    obtain ⟨_, o⟩ := ok q hq
    refine gfn_of Fd o.sc o.tsc o.tb o.io o.n o.m (fun y j ps hy => ?_) (fun y j ps hy => ?_) (by rw [o.ecs]; exact hEC) (fun y d hy => hGL y d (by rw [← o.gls]; exact hy)) (fun y hy => ?_) (fun y ks j pm m hy => ?_) ms hms
    · have hh : q.T.hot = false := by
        cases z : q.T.hot with
        | false => rfl
        | true => rw [o.fns, if_pos z] at hy; cases hy
      rw [o.fns, hh, if_neg Bool.false_ne_true] at hy
      rw [hh]
      obtain ⟨h1, q2, h2, rfl, rfl, rfl⟩ := hFT y j ps hy
      obtain ⟨h3, o2⟩ := ok q2 h2
      obtain ⟨gd, Gd⟩ := c.defs h3
      have Gd : FunD K q2.nm q2.nm (defArgs q2.st) (defBody q2.st) (defScope q2.st) [] [] (He.ga K q2.nm) gd := Gd
      exact ⟨He.ga K q2.nm, gd, He.glo_ok KX G (c.facts h1), Gd.kp, Gd.bindsN o2.bd, fun ms' hm' => (all_gfn KX G c ok hFT hKT hHT hEC hGL hBL n q2 h2 gd Gd ms' hm').cool⟩
    · obtain ⟨h1, q2, h2, rfl, rfl, rfl, hh⟩ := hHT y j ps (by rw [← o.hfn]; exact hy)
      obtain ⟨h3, o2⟩ := ok q2 h2
      obtain ⟨gd, Gd⟩ := c.defs h3
      have Gd : FunD K q2.nm q2.nm (defArgs q2.st) (defBody q2.st) (defScope q2.st) [] [] (He.ga K q2.nm) gd := Gd
      refine ⟨He.ga K q2.nm, gd, He.glo_ok KX G (c.facts h1), Gd.kp, Gd.bindsN o2.bd, fun ms' hm' => ?_⟩
      have := all_gfn KX G c ok hFT hKT hHT hEC hGL hBL n q2 h2 gd Gd ms' hm'
      rw [hh] at this
      exact this
    · exact He.free_ok KX G (c.facts (hBL y (by rw [← o.bls]; exact hy)))
    · have hh : q.T.hot = false := by
        cases z : q.T.hot with
        | false => rfl
        | true => rw [o.kfns, if_pos z] at hy; cases hy
      rw [o.kfns, hh, if_neg Bool.false_ne_true] at hy
      rw [hh]
      obtain ⟨h1, q2, h2, rfl⟩ := hKT y ks j pm m hy
      obtain ⟨h3, o2⟩ := ok q2 h2
      obtain ⟨gd, Gd⟩ := c.defs h3
      have Gd : FunD K q2.nm q2.nm (defArgs q2.st) (defBody q2.st) (defScope q2.st) [] [] (He.ga K q2.nm) gd := Gd
      obtain ⟨rfl, hpm, hb⟩ := o2.kb ks j pm m hy
      refine ⟨He.ga K q2.nm, gd, q2.ps, He.glo_ok KX G (c.facts h1), Gd.kp, ?_, (all_gfn KX G c ok hFT hKT hHT hEC hGL hBL n q2 h2 gd Gd _ (by rw [List.length_map]; exact hpm)).cool⟩
      obtain ⟨oc, od, dV, kV, doc, pmo, an, cdv, ct, osl, rfl, lk, hcd, hD, hK⟩ := Gd.ex
      rcases hD with ⟨_, rfl⟩ | ⟨e, _⟩
      · exact kb_of o2.ne fun us ws hu hw => hb kV doc pmo an cdv ct us ws hu hw
      · exact absurd rfl e
end

/-! ### constants of the module -/
def relS (d : D) (u : Value) : Bool := match d, u with
  | .non, .none => true
  | .bl a, .bool b => a == b
  | .int i, .int j _ => decide (i = j)
  | .str s, .str x _ => decide (x.cps.toList = s)
  | _, _ => false
def relSL : List D → List Value → Bool
  | [], [] => true
  | d :: ds, u :: us => relS d u && relSL ds us
  | _, _ => false
theorem relS_ok {K : PySem.W.Frag} {d : D} {u : Value} (h : relS d u = true) : ∃ v, RelV v u ∧ ∀ F, Rf K F v d := by
  unfold relS at h
  split at h
  · exact ⟨.non, rfl, fun F => .non⟩
  · rename_i a b
    have e : a = b := by simpa using h
    exact ⟨.bl a, by rw [e]; rfl, fun F => .bl a⟩
  · rename_i i j t
    exact ⟨.int i, ⟨t, by rw [of_decide_eq_true h]⟩, fun F => .int i⟩
  · rename_i s x t
    refine ⟨stV s, ⟨t, ?_⟩, fun F => .str s⟩
    rw [← of_decide_eq_true h]
  · cases h
theorem relSL_ok {K : PySem.W.Frag} : ∀ {ds : List D} {us : List Value}, relSL ds us = true → ∃ vs, Vals vs us ∧ ∀ F, Rfs K F vs ds
  | [], [], _ => ⟨[], .nil, fun F => .nil⟩
  | d :: ds, u :: us, h => by
    simp only [relSL, Bool.and_eq_true] at h
    obtain ⟨v, a, b⟩ := relS_ok (K := K) h.1
    obtain ⟨vs, c, e⟩ := relSL_ok (K := K) h.2
    exact ⟨v :: vs, .cons a c, fun F => .cons (b F) (e F)⟩
  | [], _ :: _, h => by simp [relSL] at h
  | _ :: _, [], h => by simp [relSL] at h
def tupB (K : PySem.W.Frag) (ds : List D) (u : Value) : Bool := match u with
  | .ref a => (match K.lookup a with
    | some ⟨.type c, _, .seq its _, _⟩ => decide (c = "tuple") && decide (its.size ≤ 1000) && relSL ds its.toList
    | _ => false)
  | _ => false
def glB (K : PySem.W.Frag) (x : Str) (d : D) : Bool := match PySem.W.nsIn K mainGlobals x with
  | some (some u) => (match d with
    | .tup m ds => !m && tupB K ds u
    | d => relS d u)
  | _ => false
theorem glB_ok {K : PySem.W.Frag} {h : Heap} {mg : Str → Option Value} (X : K.In h) (G : h.Ns mainGlobals mg) {x : Str} {d : D} (c : glB K x d = true) : ∃ v u, mg x = some u ∧ RelV v u ∧ ∀ F, Rf K F v d := by
  unfold glB at c
  split at c
  · rename_i u e
    have hm := PySem.W.mg_of X G e
    split at c
    · rename_i m ds
      simp only [Bool.and_eq_true, Bool.not_eq_true'] at c
      obtain ⟨rfl, c⟩ := c
      unfold tupB at c
      split at c
      · rename_i a
        split at c
        · rename_i cc od its n sl e2
          simp only [Bool.and_eq_true, decide_eq_true_eq] at c
          obtain ⟨⟨rfl, c2⟩, c3⟩ := c
          obtain ⟨vs, r, rf⟩ := relSL_ok (K := K) c3
          exact ⟨.ref a, .ref a, hm, rfl, fun F => .tup (.inr ⟨_, its, n, e2, rfl, rfl, by rw [sizeLine_eq]; omega, r⟩) (rf F)⟩
        · cases c
      · cases c
    · obtain ⟨v, r, rf⟩ := relS_ok (K := K) c
      exact ⟨v, u, hm, r, rf⟩
  · cases c
def glsB (gl : List (Str × D)) (K : PySem.W.Frag) : Bool := gl.all fun p => glB K p.1 p.2
/-- the classes of exceptions, checked -/
def xckB (K : PySem.W.Frag) (c : Nat) : Bool := (List.range 9).all (fun k => match PySem.W.nsIn K mainGlobals (clsNm k) with
    | some (some (.ref D)) => !(decide (D = caK K k)) || (decide (PySem.W.kitOne K (.ref (caK K c)) (.ref (caK K k)) = some (subX c k)) && decide (PySem.W.exmOne K (.ref (caK K c)) (.ref (caK K k)) = some (subX c k)))
    | _ => true) && decide (PySem.W.kitOne K (.ref (caK K c)) (.type "ValueError") = some true) && decide (PySem.W.exmOne K (.ref (caK K c)) (.type "ValueError") = some true)
theorem xckB_ok {K : PySem.W.Frag} {c : Nat} {file : Str} (f : XcF file K (caK K c)) (h : xckB K c = true) : XcK K c := by
  unfold xckB at h
  simp only [Bool.and_eq_true, List.all_eq_true, List.mem_range, decide_eq_true_eq] at h
  obtain ⟨⟨h1, h2⟩, h3⟩ := h
  refine ⟨⟨file, f⟩, fun k hk => ?_⟩
  rcases hk with rfl | ⟨k9, hk⟩
  · exact ⟨h2, h3⟩
  · have := h1 k k9
    rw [hk] at this
    simp only [decide_true, Bool.not_true, Bool.false_or, Bool.and_eq_true, decide_eq_true_eq] at this
    unfold clV
    rw [if_neg (by omega)]
    exact this
def ecsB (file : Str) (K : PySem.W.Frag) (ec : List Nat) : Bool := ec.all (fun k => decide (k < 9) && decide (PySem.W.nsIn K mainGlobals (clsNm k) = some (some (.ref (caK K k)))) && (if k = 0 then xzB K ec else (xcB file K (caK K k) && xckB K k))) && (ec.isEmpty || xgB K)
theorem ecs_ok {P : Program} {K : PySem.W.Frag} {h : Heap} {mg : Str → Option Value} {ec : List Nat} (X : K.In h) (G : h.Ns mainGlobals mg) (t : (P.main.scope.names.lookup sSuper).isSome = false) (c : ecsB P.main.file K ec = true) :
    ∀ k ∈ ec, k < 9 ∧ mg (clsNm k) = some (.ref (caK K k)) ∧ PySem.W.nsIn K mainGlobals (clsNm k) = some (some (.ref (caK K k))) ∧ ((k ≠ 0 → XcF P.main.file K (caK K k) ∧ XcK K k) ∧ (k = 0 → ZcK K ec)) ∧ XcG P K := by
  unfold ecsB at c
  simp only [Bool.and_eq_true, List.all_eq_true, decide_eq_true_eq, Bool.or_eq_true] at c
  obtain ⟨c1, c2⟩ := c
  intro k hk
  obtain ⟨⟨h1, h2⟩, h3⟩ := c1 k hk
  refine ⟨h1, PySem.W.mg_of X G h2, h2, ⟨fun hz => ?_, fun hz => ?_⟩, ?_⟩
  · rw [if_neg hz, Bool.and_eq_true] at h3
    obtain ⟨z1, z2⟩ := h3
    have f := xcB_ok z1
    exact ⟨f, xckB_ok f z2⟩
  · rw [if_pos hz] at h3
    exact xzB_ok h3
  · rcases c2 with z | z
    · rw [List.isEmpty_iff] at z
      rw [z] at hk; cases hk
    · exact xgB_ok z t
def asX (g : Addr → Option Obj) (n : Nat) (ec : List Nat) : List Addr := if ec.isEmpty then He.asD g n else He.asD g n ++ [cStatics]
def obsG (n : Nat) (fa : List He.Fa) (fn : List He.DefD) (gl : List (Str × D)) (file : Str) (ec : List Nat) (g : Addr → Option Obj) : He.AlD × Bool := (He.obsD fa fn (He.frG g (asX g n ec)), glsB gl (He.frG g (asX g n ec)) && ecsB file (He.frG g (asX g n ec)) ec)
def hookG (n : Nat) (fa : List He.Fa) (fn : List He.DefD) (gl : List (Str × D)) (file : Str) (ec : List Nat) : PySem.W.Hook where
  α := He.AlD × Bool
  obs := fun s => obsG n fa fn gl file ec s.heap.get?
  val := fun _ => (He.valD fn, true)
  says := fun _ h => ∃ K : PySem.W.Frag, K.In h ∧ He.SaysD fa fn K ∧ (glsB gl K && ecsB file K ec) = true
  of := fun _ _ e => ⟨_, He.frG_in, congrArg Prod.fst e, congrArg Prod.snd e⟩
  keeps := fun _ _ _ ⟨K, hK, c⟩ k => ⟨K, PySem.W.Frag.In.keeps hK k, c⟩
theorem obsG_eq {n : Nat} {fa : List He.Fa} {fn : List He.DefD} {gl : List (Str × D)} {file : Str} {ec : List Nat} {g : Addr → Option Obj} {s : Shared} (h : ∀ a, g a = s.heap.get? a) : obsG n fa fn gl file ec g = (hookG n fa fn gl file ec).obs s := by
  have e : g = s.heap.get? := funext h
  rw [e] <;> rfl
theorem gls_ok {K : PySem.W.Frag} {h : Heap} {mg : Str → Option Value} {gl : List (Str × D)} (X : K.In h) (G : h.Ns mainGlobals mg) (c : glsB gl K = true) : ∀ y d, (y, d) ∈ gl → ∃ v u, mg y = some u ∧ RelV v u ∧ ∀ F, Rf K F v d := fun y d hy =>
  glB_ok X G (List.all_eq_true.mp c _ hy)

/-! ### the law's end -/
theorem rfs_ints {K : PySem.W.Frag} {F : Hp} : ∀ ns : List Int, Rfs K F (ns.map V.int) (ns.map D.int)
  | [] => .nil
  | n :: ns => .cons (.int n) (rfs_ints ns)
theorem law_sp {K : PySem.W.Frag} {phi : Nat → List PM → List D → FRes} {i : Nat} {H : Hp} {a : Addr} {ns : List Int} (hS : SqL K H a (ns.map V.int)) {os : List (Option D)} (h : phi i [.val] [.lst false (ns.map D.int)] = .ok (.bl true) os) :
    spF K phi i [.val] [.ref a] H (fun v _ => v = .bl true) fun _ _ _ => False := by
  refine ⟨H, [.lst false (ns.map D.int)], [], [], ⟨.refl _, List.nodup_nil, (fun _ z => by cases z), fun _ z => by cases z⟩, .val (f := []) (.frz (.lst hS (rfs_ints ns))) .nil, ?_⟩
  rw [h]
  intro v F' H' fr fo _ _ ro _
  exact ro.bl_inv
/-- a call of the law from outside -/
theorem law_go {P : Program} {w : World} {K : PySem.W.Frag} {mg mb : Str → Option Value} {k : Nat} {fa a : Addr} {fd : FuncData} {x : Str} {sp : Sp} {s₁ : Shared} {us : List Value} {ns : List Int}
    (KX : K.In s₁.heap) (hns : s₁.heap.Ns mainGlobals mg) (hb : s₁.heap.Ns builtinsNs mb) (hbb : ∀ x : Str, x ≠ "__name__" → mb x = bootBuiltins x) (hlim : s₁.heap.NoLimit) (hg : s₁.gens = #[])
    (ha : s₁.heap.get? a = some { cls := .type "list", data := .seq us.toArray }) (hi : IntsAre us ns) (hl : ns.length ≤ sizeLine) (hr : Room (k + 1) callerA)
    (F : ∀ base : Heap, K.In base → base.Ns mainGlobals mg → GFn P w K mg base false k fa fd [x] sp) (hbind : ∀ (s : Shared) (u : Value), BindsTo s fd ⟨[u], []⟩ [(x, u)])
    (hsp : ∀ H : Hp, Only H → SqL K H a (ns.map V.int) → sp [.ref a] H (fun v _ => v = .bl true) fun _ _ _ => False) :
    codeAny (model P w) callerA (.call (.ref fa) ⟨[.ref a], []⟩) (fun r s' => r = .ok (.ret (.bool true)) ∧ OldK s₁.heap s'.heap ∧ s'.os = s₁.os ∧ AllBare s'.gens) s₁ := by
  have valsI := vals_ints hi
  have lenI := hi.length
  have key : ∀ H : Hp, Only H → SqL K H a (ns.map V.int) → HOk P w H s₁.heap → (∀ b, H b ≠ none → b = a) → (H a ≠ none → K.lookup a = none) →
      codeAny (model P w) callerA (.call (.ref fa) ⟨[.ref a], []⟩) (fun r s' => r = .ok (.ret (.bool true)) ∧ OldK s₁.heap s'.heap ∧ s'.os = s₁.os ∧ AllBare s'.gens) s₁ := by
    intro H only sq hok isA notK
    have stays : ∀ {b : Addr} {o : Obj}, s₁.heap.get? b = some o → H b = none → (hidT s₁.heap H).get? b = some o := fun e n => hidT_get e n
    have free : ∀ {b : Addr} {o : Obj} {es : Array DictEntry} {ep : Nat}, s₁.heap.get? b = some o → o.data = .dict es ep → H b = none := fun {b o es ep} e d => by
      cases q : H b with
      | none => rfl
      | some u =>
        have eb : b = a := isA b (by rw [q]; simp)
        rw [eb, ha] at e; cases e
        exact nomatch (show Data.seq us.toArray _ = Data.dict es ep from d)
    have nsT : ∀ {b : Addr} {m : Str → Option Value}, s₁.heap.Ns b m → (hidT s₁.heap H).Ns b m := fun {b m} ⟨o, es, ep, e, d, r⟩ => ⟨o, es, ep, stays e (free e d), d, r⟩
    have inT : K.In (hidT s₁.heap H) := fun b o e => stays (KX b o e) (by
      cases q : H b with
      | none => rfl
      | some u =>
        have eb : b = a := isA b (by rw [q]; simp)
        rw [eb] at e q
        rw [notK (by rw [q]; simp)] at e; cases e)
    have modT : Mod K mg (hidT s₁.heap H) := ⟨inT, nsT hns, ⟨mb, nsT hb, hbb⟩, let ⟨mc, l1, l2⟩ := hlim; ⟨mc, nsT l1, l2⟩⟩
    have envT : Env0 P w K mg (hidT s₁.heap H) callerA [] s₁ H := ⟨rfl, modT, fun b o e => of_hidT e, Nat.le_of_eq (hidT_size _ _), trivial, fun b hb => absurd (show b ∈ ([] : List Addr) from hb) (by simp), hok, .of_eq hg⟩
    refine codeAny_mono ((F _ inT (nsT hns)).run callerA [] s₁ H ⟨[.ref a], []⟩ [.ref a] [.ref a] _ _ (.of hr) rfl envT (hbind s₁ (.ref a)) (.cons rfl .nil) (hsp H only sq)) fun r s' z => ?_
    cases r with
    | error e =>
      obtain ⟨_, _, _, _, _, _, _, _, _, _, _, _, bad⟩ := (show L2.CX P w [] H s₁ (fun _ _ _ => False) e s' from z)
      exact bad.elim
    | ok fl =>
      cases fl with
      | next => exact False.elim z
      | brk => exact False.elim z
      | cont => exact False.elim z
      | ret u =>
        obtain ⟨v, H', os, bare, un, hok', rv, q⟩ := z
        have q' : v = .bl true := q
        subst q'
        obtain rfl : u = Value.bool true := rv
        refine ⟨rfl, OldK.of_keep fun b o e => ?_, os, bare⟩
        cases q2 : H b with
        | none => exact un.keep b o e q2 (by intro z; exact absurd (show b ∈ ([] : List Addr) from z) (by simp)) (by simp)
        | some u =>
          rcases only b with z | ⟨ob, xs, z⟩
          · rw [q2] at z; cases z
          · have z2 := un.frzs b ob _ z
            obtain ⟨y1, _⟩ := hok b _ z
            obtain ⟨y2, _⟩ := hok' b _ z2
            rw [e] at y1; cases y1
            exact y2
  cases hk : K.lookup a with
  | some o =>
    have e := KX a o hk
    rw [ha] at e
    cases e
    exact key (fun _ => none) (fun _ => .inl rfl) (.inr ⟨_, us.toArray, _, hk, rfl, rfl, rfl, by rw [List.size_toArray, lenI]; exact hl, by simpa using valsI⟩) (fun b u z => nomatch (show (none : Option HO) = some u from z)) (fun b z => absurd rfl z) fun z => absurd rfl z
  | none =>
    refine key (fun b => if b = a then some (.frz { cls := .type "list", data := .seq us.toArray } (.lst (ns.map V.int))) else none) (fun b => ?_) (.inl (.inr ⟨{ cls := .type "list", data := .seq us.toArray }, if_pos rfl⟩)) (fun b u z => ?_) (fun b z => ?_) fun _ => hk
    all_goals by_cases hb : b = a
    · exact .inr ⟨_, _, if_pos hb⟩
    · exact .inl (if_neg hb)
    · have z' := (if_pos hb).symm.trans z
      cases z'
      rw [hb]
      exact ⟨ha, by rw [List.length_map]; exact hl, us, _, valsI, ha⟩
    · exact nomatch ((if_neg hb).symm.trans z)
    · exact hb
    · exact absurd (if_neg hb) z
theorem law_walk {l : PySem.W.OpenLaw} {n k : Nat} {q : Program} {loose : List Str} {XP : (Str → Option Value) → Heap → Prop} {YP : World → Heap → Prop} {d : DefRec} {x : Str}
    (hn : l.most = some n) (hn2 : n ≤ sizeLine) (hdf : d.params.defaults = []) (hr : Room (k + 1) callerA)
    (F : ∀ (w : World) (mg : Str → Option Value) (fa : Addr) (h : Heap), YP w h → h.Ns mainGlobals mg → mg d.name = some (.ref fa) →
      ∃ (K : PySem.W.Frag) (fd : FuncData) (sp : Sp), K.In h ∧ (∀ (s : Shared) (u : Value), BindsTo s fd ⟨[u], []⟩ [(x, u)]) ∧
        (∀ (H : Hp) (a : Addr) (ns : List Int), ns.length ≤ n → Only H → SqL K H a (ns.map V.int) → sp [.ref a] H (fun v _ => v = .bl true) fun _ _ _ => False) ∧
        ∀ base : Heap, K.In base → base.Ns mainGlobals mg → GFn l.prog w K mg base false k fa fd [x] sp) :
    PySem.W.WalkO q loose XP YP l.row.toRowW d [] (fun f vs => PySem.call f vs) := by
  refine Att.attach_call hn hdf fun w s₀ s₁ mg mb fa o pm cd doc a vs ns G Y ho hd hcd hmg hobj hints hlen hg => ?_
  obtain ⟨K, fd, sp, KX, hb, hsp, hF⟩ := F w mg fa _ Y G.T.g hmg
  exact law_go KX G.T.g G.T.b G.T.builtins G.T.nolimit hg hobj hints (Nat.le_trans hlen hn2) hr hF hb fun H hO hS => hsp H a ns hlen hO hS
end Z

set_option Elab.async false
set_option linter.all false
set_option maxRecDepth 100000
set_option maxHeartbeats 2000000
/-! M0: what the evaluator makes of each construct; the mathematics' tools. -/
namespace Z
theorem ok_then {α β : Type} {a : α} {e : Env} {k : α → Env → Res β} : (Res.ok a e).andThen k = k a e := rfl
theorem xc_then {α β : Type} {c : Nat} {d : D} {e : Env} {k : α → Env → Res β} : (Res.xc c d e : Res α).andThen k = .xc c d e := rfl
theorem bad_then {α β : Type} {k : α → Env → Res β} : (Res.bad : Res α).andThen k = .bad := rfl
theorem if_then {α β : Type} {c : Prop} [Decidable c] {a b : Res α} {k : α → Env → Res β} : (if c then a else b).andThen k = if c then a.andThen k else b.andThen k := by split <;> rfl
theorem lift_some {α : Type} {a : α} {e : Env} : lift (some a) e = .ok a e := rfl
theorem lift_none {α : Type} {e : Env} : lift (none : Option α) e = .bad := rfl
theorem noX_ok {α : Type} {a : α} {e : Env} : noX (Res.ok a e) = .ok a e := rfl
theorem noX_if {α : Type} {c : Prop} [Decidable c] {a b : Res α} : noX (if c then a else b) = if c then noX a else noX b := by split <;> rfl
theorem lift_if {α : Type} {c : Prop} [Decidable c] {a b : Option α} {e : Env} : lift (if c then a else b) e = if c then lift a e else lift b e := by split <;> rfl
/-- a junk variable: free, whatever it holds -/
def Fs (x : Slot) : Prop := x = .no ∨ ∃ d, x = .fr d
theorem Fs.no : Fs .no := .inl rfl
theorem Fs.fr {d : D} : Fs (.fr d) := .inr ⟨d, rfl⟩
/-! slots -/
theorem getS_0f {d : D} {r : Env} : getS (.fr d :: r) 0 = some d := rfl
theorem getS_0p {d : D} {r : Env} : getS (.pn d :: r) 0 = some d := rfl
theorem getS_0b {d : D} {r : Env} : getS (.bo d :: r) 0 = some d := rfl
theorem getS_s {x : Slot} {r : Env} {n : Nat} : getS (x :: r) (n + 1) = getS r n := by cases x <;> rfl
theorem setS_0 {x : Slot} {r : Env} {d : D} (h : Fs x) : setS (x :: r) 0 d = some (.fr d :: r) := by
  rcases h with rfl | ⟨_, rfl⟩ <;> rfl
theorem setS_0f {y : D} {r : Env} {d : D} : setS (.fr y :: r) 0 d = some (.fr d :: r) := rfl
theorem setS_0n {r : Env} {d : D} : setS (.no :: r) 0 d = some (.fr d :: r) := rfl
theorem setS_s {x : Slot} {r : Env} {n : Nat} {d : D} : setS (x :: r) (n + 1) d = (setS r n d).map (x :: ·) := by cases x <;> rfl
theorem putS_0f {y : D} {r : Env} {d : D} : putS (.fr y :: r) 0 d = some (.fr d :: r) := rfl
theorem putS_0p {y : D} {r : Env} {d : D} : putS (.pn y :: r) 0 d = some (.pn d :: r) := rfl
theorem putS_s {x : Slot} {r : Env} {n : Nat} {d : D} : putS (x :: r) (n + 1) d = (putS r n d).map (x :: ·) := by cases x <;> rfl
theorem clrS_0 {x : Slot} {r : Env} (h : Fs x) : clrS (x :: r) 0 = some (.no :: r) := by
  rcases h with rfl | ⟨_, rfl⟩ <;> rfl
theorem clrS_0f {y : D} {r : Env} : clrS (.fr y :: r) 0 = some (.no :: r) := rfl
theorem clrS_0n {r : Env} : clrS (.no :: r) 0 = some (.no :: r) := rfl
theorem clrS_s {x : Slot} {r : Env} {n : Nat} : clrS (x :: r) (n + 1) = (clrS r n).map (x :: ·) := by cases x <;> rfl
/-! calls -/
def resF : FRes → Env → Res D
  | .ok d _, e => .ok d e
  | .xc c d _, e => .xc c d e
  | .bad, _ => .bad
def resI (i : Nat) : FRes → Env → Res D
  | .ok d os, e => (lift (backS [i] os e) e).andThen fun e' _ => .ok d e'
  | .xc c d os, e => (lift (backS [i] os e) e).andThen fun e' _ => .xc c d e'
  | .bad, _ => .bad
theorem resF_ok {d : D} {os : List (Option D)} {e : Env} : resF (.ok d os) e = .ok d e := rfl
theorem resF_xc {c : Nat} {d : D} {os : List (Option D)} {e : Env} : resF (.xc c d os) e = .xc c d e := rfl
theorem resI_ok {i : Nat} {d : D} {os : List (Option D)} {e : Env} : resI i (.ok d os) e = (lift (backS [i] os e) e).andThen fun e' _ => .ok d e' := rfl
theorem resI_xc {i c : Nat} {d : D} {os : List (Option D)} {e : Env} : resI i (.xc c d os) e = (lift (backS [i] os e) e).andThen fun e' _ => .xc c d e' := rfl
theorem backS_1 {i : Nat} {d : D} {os : List (Option D)} {e : Env} (h : os.filterMap id = [d]) : backS [i] os e = putS e i d := by
  unfold backS
  simp only [h]
theorem back_a {i : Nat} {d : D} {e : Env} : backS [i] [some d] e = putS e i d := rfl
theorem back_b {i : Nat} {d : D} {e : Env} : backS [i] [some d, none] e = putS e i d := rfl
theorem back_c {i : Nat} {d : D} {e : Env} : backS [i] [some d, none, none] e = putS e i d := rfl
theorem back_d {i : Nat} {d : D} {e : Env} : backS [i] [some d, none, none, none] e = putS e i d := rfl
theorem back_e {i : Nat} {d : D} {e : Env} : backS [i] [none, some d] e = putS e i d := rfl
section
variable {phi : Nat → List PM → List D → FRes} {wf : Nat} {e : Env}
theorem call_v1 {f : Nat} {a : LE} : evE phi (.call f (.e a .nil)) e = (evE phi a e).andThen fun x e => resF (phi f [.val] [x]) e := by
  simp only [evE, evA]
  cases evE phi a e with
  | bad => rfl
  | xc c d e => rfl
  | ok x e => simp [Res.andThen, runCall, ioArgs, ioIx, boIx, tags]; cases phi f [.val] [x] <;> rfl
theorem call_v2 {f : Nat} {a b : LE} : evE phi (.call f (.e a (.e b .nil))) e = (evE phi a e).andThen fun x e => (evE phi b e).andThen fun y e => resF (phi f [.val, .val] [x, y]) e := by
  simp only [evE, evA]
  cases evE phi a e with
  | bad => rfl
  | xc c d e => rfl
  | ok x e =>
    simp only [Res.andThen]
    cases evE phi b e with
    | bad => rfl
    | xc c d e => rfl
    | ok y e => simp [runCall, ioArgs, ioIx, boIx, tags]; cases phi f [.val, .val] [x, y] <;> rfl
theorem call_v3 {f : Nat} {a b c : LE} : evE phi (.call f (.e a (.e b (.e c .nil)))) e = (evE phi a e).andThen fun x e => (evE phi b e).andThen fun y e => (evE phi c e).andThen fun z e => resF (phi f [.val, .val, .val] [x, y, z]) e := by
  simp only [evE, evA]
  cases evE phi a e with
  | bad => rfl
  | xc c d e => rfl
  | ok x e =>
    simp only [Res.andThen]
    cases evE phi b e with
    | bad => rfl
    | xc c d e => rfl
    | ok y e =>
      simp only []
      cases evE phi c e with
      | bad => rfl
      | xc c d e => rfl
      | ok z e => simp [runCall, ioArgs, ioIx, boIx, tags]; cases phi f [.val, .val, .val] [x, y, z] <;> rfl
theorem call_i0 {f i : Nat} : evE phi (.call f (.io i .nil)) e = (lift (getS e i) e).andThen fun R e => resI i (phi f [.io] [R]) e := by
  simp only [evE, evA]
  cases h : getS e i with
  | none => rfl
  | some R =>
    simp [Res.andThen, lift, runCall, ioArgs, ioIx, boIx, tags, h]
    cases phi f [.io] [R] <;> rfl
theorem call_i1 {f i : Nat} {a : LE} : evE phi (.call f (.io i (.e a .nil))) e = (lift (getS e i) e).andThen fun _ e => (evE phi a e).andThen fun x e => (lift (getS e i) e).andThen fun R e => resI i (phi f [.io, .val] [R, x]) e := by
  simp only [evE, evA]
  cases h : getS e i with
  | none => rfl
  | some R =>
    simp only [Res.andThen, lift]
    cases evE phi a e with
    | bad => rfl
    | xc c d e => rfl
    | ok x e =>
      simp only [runCall, ioArgs, ioIx, boIx, tags]
      cases h2 : getS e i with
      | none => simp [h2]
      | some R2 => simp [h2]; cases phi f [.io, .val] [R2, x] <;> rfl
theorem call_i2 {f i : Nat} {a b : LE} : evE phi (.call f (.io i (.e a (.e b .nil)))) e = (lift (getS e i) e).andThen fun _ e => (evE phi a e).andThen fun x e => (evE phi b e).andThen fun y e => (lift (getS e i) e).andThen fun R e => resI i (phi f [.io, .val, .val] [R, x, y]) e := by
  simp only [evE, evA]
  cases h : getS e i with
  | none => rfl
  | some R =>
    simp only [Res.andThen, lift]
    cases evE phi a e with
    | bad => rfl
    | xc c d e => rfl
    | ok x e =>
      simp only []
      cases evE phi b e with
      | bad => rfl
      | xc c d e => rfl
      | ok y e =>
        simp only [runCall, ioArgs, ioIx, boIx, tags]
        cases h2 : getS e i with
        | none => simp [h2]
        | some R2 => simp [h2]; cases phi f [.io, .val, .val] [R2, x, y] <;> rfl
theorem call_i3 {f i : Nat} {a b c : LE} : evE phi (.call f (.io i (.e a (.e b (.e c .nil))))) e = (lift (getS e i) e).andThen fun _ e => (evE phi a e).andThen fun x e => (evE phi b e).andThen fun y e => (evE phi c e).andThen fun z e => (lift (getS e i) e).andThen fun R e => resI i (phi f [.io, .val, .val, .val] [R, x, y, z]) e := by
  simp only [evE, evA]
  cases h : getS e i with
  | none => rfl
  | some R =>
    simp only [Res.andThen, lift]
    cases evE phi a e with
    | bad => rfl
    | xc c d e => rfl
    | ok x e =>
      simp only []
      cases evE phi b e with
      | bad => rfl
      | xc c d e => rfl
      | ok y e =>
        simp only []
        cases evE phi c e with
        | bad => rfl
        | xc c d e => rfl
        | ok z e =>
          simp only [runCall, ioArgs, ioIx, boIx, tags]
          cases h2 : getS e i with
          | none => simp [h2]
          | some R2 => simp [h2]; cases phi f [.io, .val, .val, .val] [R2, x, y, z] <;> rfl
end
/-! a def's run -/
theorem run_eq {tbl : Nat → Option Fn} {wf n i : Nat} {ms : List PM} {ds : List D} {F : Fn} (h : tbl i = some F) : run tbl wf (n + 1) i ms ds = runF (run tbl wf n) wf F ms ds := by
  show (match tbl i with | none => _ | some F => _) = _
  rw [h]
/-! weakest preconditions -/
def W {α : Type} (r : Res α) (Q : α → Env → Prop) : Prop := match r with
  | .ok a e => Q a e
  | _ => False
theorem W_ok {α : Type} {a : α} {e : Env} {Q : α → Env → Prop} : W (.ok a e) Q = Q a e := rfl
theorem W_then {α β : Type} {r : Res α} {k : α → Env → Res β} {Q : β → Env → Prop} : W (r.andThen k) Q = W r (fun a e => W (k a e) Q) := by cases r <;> rfl
theorem W_mono {α : Type} {r : Res α} {Q Q' : α → Env → Prop} (h : W r Q) (k : ∀ a e, Q a e → Q' a e) : W r Q' := by
  cases r with
  | ok a e => exact k _ _ h
  | xc c d e => exact h
  | bad => exact h
theorem W_of {α : Type} {r : Res α} {a : α} {e : Env} {Q : α → Env → Prop} (h : r = .ok a e) (q : Q a e) : W r Q := by rw [h]; exact q
theorem W_ex {α : Type} {r : Res α} {Q : α → Env → Prop} (h : W r Q) : ∃ a e, r = .ok a e ∧ Q a e := by
  cases r with
  | ok a e => exact ⟨a, e, rfl, h⟩
  | xc c d e => exact h.elim
  | bad => exact h.elim
/-- a loop by its invariant -/
theorem loopW {body : D → Env → Res Fl} {Q : Fl → Env → Prop} (I : List D → Env → Prop) (h0 : ∀ e, I [] e → Q .nx e)
    (h : ∀ x xs e, I (x :: xs) e → W (body x e) fun f e' => match f with
      | .nx => I xs e'
      | .ct => I xs e'
      | .bk => Q .nx e'
      | .rt d => Q (.rt d) e') : ∀ xs e, I xs e → W (loopF body xs e) Q
  | [], e, i => h0 e i
  | x :: xs, e, i => by
    have h1 := h x xs e i
    simp only [loopF, W_then]
    refine W_mono h1 fun f e' q => ?_
    cases f with
    | nx => exact loopW I h0 h xs e' q
    | ct => exact loopW I h0 h xs e' q
    | bk => exact q
    | rt d => exact q
/-- a comprehension whose turns leave all as it is -/
theorem loopC_eq {body : D → Env → Res (Option D)} {e : Env} {g : D → Option D} : ∀ {xs : List D}, (∀ x ∈ xs, body x e = .ok (g x) e) → loopC body xs e = .ok (xs.filterMap g) e
  | [], _ => rfl
  | x :: xs, h => by
    simp only [loopC, h x List.mem_cons_self, ok_then, loopC_eq (xs := xs) fun y hy => h y (List.mem_cons_of_mem _ hy), List.filterMap_cons]
    cases g x <;> rfl
theorem loopC_map {body : D → Env → Res (Option D)} {e : Env} {g : D → D} {xs : List D} (h : ∀ x ∈ xs, body x e = .ok (some (g x)) e) : loopC body xs e = .ok (xs.map g) e := by
  rw [loopC_eq (g := fun x => some (g x)) h]
  congr 1
  induction xs with
  | nil => rfl
  | cons x xs ih => rw [List.filterMap_cons, List.map_cons, ih fun y hy => h y (List.mem_cons_of_mem _ hy)]
/-- a while by a measure -/
theorem whileW {c : Env → Res D} {body : Env → Res Fl} {Q : Fl → Env → Prop} (I : Nat → Env → Prop)
    (h : ∀ m e, I m e → W (c e) fun b e1 => (b = .bl false ∧ Q .nx e1) ∨ (b = .bl true ∧ W (body e1) fun f e' => match f with
      | .nx => ∃ k, k < m ∧ I k e'
      | .ct => ∃ k, k < m ∧ I k e'
      | .bk => Q .nx e'
      | .rt d => Q (.rt d) e')) : ∀ n m e, m < n → I m e → W (whileR c body n e) Q
  | 0, m, e, hm, _ => absurd hm (Nat.not_lt_zero _)
  | n + 1, m, e, hm, i => by
    simp only [whileR, W_then]
    refine W_mono (h m e i) fun b e1 q => ?_
    rcases q with ⟨rfl, q⟩ | ⟨rfl, q⟩
    · exact q
    · simp only [W_then]
      refine W_mono q fun f e' z => ?_
      cases f with
      | nx => obtain ⟨k, hk, z⟩ := z; exact whileW I h n k e' (by omega) z
      | ct => obtain ⟨k, hk, z⟩ := z; exact whileW I h n k e' (by omega) z
      | bk => exact z
      | rt d => exact z
/-! operations on numbers, texts -/
theorem bits_lt {i : Int} {k : Nat} (h1 : -(2 ^ k) < i) (h2 : i < 2 ^ k) (hk : 1 ≤ k) : bits i ≤ k := by
  unfold bits
  by_cases h0 : i = 0
  · subst h0; simp
  · have h3 : i.natAbs < 2 ^ k := by
      have : ((2 : Int) ^ k) = ((2 ^ k : Nat) : Int) := by norm_cast
      rw [this] at h1 h2
      omega
    have := (Nat.log2_lt (by omega)).mpr h3
    omega
theorem mul_of {a b : Int} {k m : Nat} (h1 : bits a ≤ k) (h2 : bits b ≤ m) (h : k + m < 1000000) : binop .mul (.int a) (.int b) = some (.int (a * b)) := if_pos (by omega)
theorem mod_of {a b : Int} (h : 0 < b) : binop .mod (.int a) (.int b) = some (.int (a % b)) := if_pos h
theorem add_of {a b : Int} : binop .add (.int a) (.int b) = some (.int (a + b)) := rfl
theorem sub_of {a b : Int} : binop .sub (.int a) (.int b) = some (.int (a - b)) := rfl
theorem cmp_eqI (i j : Int) : cmpop .eq (.int i) (.int j) = some (decide (i = j)) := by
  simp [cmpop, scalD, eqB]
  by_cases h : i = j <;> simp [h]
theorem cmp_neI (i j : Int) : cmpop .ne (.int i) (.int j) = some (!decide (i = j)) := by
  simp [cmpop, scalD, eqB]
  by_cases h : i = j <;> simp [h]
theorem cmp_geI (i j : Int) : cmpop .ge (.int i) (.int j) = some (decide (j ≤ i)) := rfl
theorem cmp_gtI (i j : Int) : cmpop .gt (.int i) (.int j) = some (decide (j < i)) := rfl
theorem cmp_ltI (i j : Int) : cmpop .lt (.int i) (.int j) = some (decide (i < j)) := rfl
theorem cmp_leI (i j : Int) : cmpop .le (.int i) (.int j) = some (decide (i ≤ j)) := rfl
theorem cmp_eqS (s t : List Nat) : cmpop .eq (.str s) (.str t) = some (decide (s = t)) := by
  simp [cmpop, scalD, eqB]
  by_cases h : s = t <;> simp [h]
theorem cmp_neS (s t : List Nat) : cmpop .ne (.str s) (.str t) = some (!decide (s = t)) := by
  simp [cmpop, scalD, eqB]
  by_cases h : s = t <;> simp [h]
end Z

set_option Elab.async false
set_option linter.all false
set_option maxRecDepth 100000
set_option maxHeartbeats 2000000
/-! M1: one equation for each construct. -/
namespace Z
def selB {α : Type} (x : D) (t f : Res α) : Res α := match x with
  | .bl true => t
  | .bl false => f
  | _ => .bad
theorem selB_bl {α : Type} {b : Bool} {t f : Res α} : selB (.bl b) t f = if b = true then t else f := by cases b <;> rfl
def notK (x : D) (e : Env) : Res D := match x with
  | .bl b => .ok (.bl (!b)) e
  | _ => .bad
theorem notK_bl {b : Bool} {e : Env} : notK (.bl b) e = .ok (.bl (!b)) e := rfl
def blK (x : D) (e : Env) : Res Bool := match x with
  | .bl b => .ok b e
  | _ => .bad
theorem blK_bl {b : Bool} {e : Env} : blK (.bl b) e = .ok b e := rfl
def intK (x : D) (e : Env) : Res (Option Int) := match x with
  | .int i => .ok (some i) e
  | _ => .bad
theorem intK_int {i : Int} {e : Env} : intK (.int i) e = .ok (some i) e := rfl
def negK (x : D) (e : Env) : Res D := match x with
  | .int i => .ok (.int (-i)) e
  | _ => .bad
theorem negK_int {i : Int} {e : Env} : negK (.int i) e = .ok (.int (-i)) e := rfl
def rngK (x : D) (e : Env) : Res (List D) := match x with
  | .int n => lift (rngI 0 n) e
  | _ => .bad
theorem rngK_int {i : Int} {e : Env} : rngK (.int i) e = lift (rngI 0 i) e := rfl
def rngK2 (x y : D) (e : Env) : Res (List D) := match x, y with
  | .int m, .int n => lift (rngI m n) e
  | _, _ => .bad
theorem rngK2_int {i j : Int} {e : Env} : rngK2 (.int i) (.int j) e = lift (rngI i j) e := rfl
def nxK (f : Fl) (k : Env → Res Fl) (e : Env) : Res Fl := match f with
  | .nx => k e
  | f => .ok f e
theorem nxK_nx {k : Env → Res Fl} {e : Env} : nxK .nx k e = k e := rfl
theorem nxK_rt {d : D} {k : Env → Res Fl} {e : Env} : nxK (.rt d) k e = .ok (.rt d) e := rfl
theorem nxK_bk {k : Env → Res Fl} {e : Env} : nxK .bk k e = .ok .bk e := rfl
theorem nxK_ct {k : Env → Res Fl} {e : Env} : nxK .ct k e = .ok .ct e := rfl
section
variable {phi : Nat → List PM → List D → FRes} {wf : Nat} {e : Env}
theorem ev_c {d : D} : evE phi (.c d) e = if scalD d = true then .ok d e else .bad := by rw [evE]
theorem ev_int {i : Int} : evE phi (.c (.int i)) e = .ok (.int i) e := by rw [evE]; rfl
theorem ev_str {i : List Nat} : evE phi (.c (.str i)) e = .ok (.str i) e := by rw [evE]; rfl
theorem ev_bl {i : Bool} : evE phi (.c (.bl i)) e = .ok (.bl i) e := by rw [evE]; rfl
theorem ev_non : evE phi (.c .non) e = .ok .non e := by rw [evE]; rfl
theorem ev_v {i : Nat} : evE phi (.v i) e = (lift (getS e i) e).andThen fun d e => if fzn d = true then .ok d e else .bad := by rw [evE]
theorem ev_mv {i : Nat} : evE phi (.mv i) e = (lift (getS e i) e).andThen fun d e => (lift (clrS e i) e).andThen fun e' _ => .ok d e' := by rw [evE]
theorem ev_vz {i : Nat} : evE phi (.vz i) e = (lift (getS e i) e).andThen fun d e => (lift (frz? d) e).andThen fun z e => (lift (setS e i z) e).andThen fun e' _ => .ok z e' := by rw [evE]
theorem ev_bw {i : Nat} : evE phi (.bw i) e = lift (getS e i) e := by rw [evE]
theorem ev_gl {k : Nat} {d : D} : evE phi (.gl k d) e = .ok d e := by rw [evE]
theorem ev_fz {a : LE} : evE phi (.fz a) e = (evE phi a e).andThen fun x e => lift (frz? x) e := by rw [evE]
theorem ev_rd {a : LE} : evE phi (.rd a) e = (evE phi a e).andThen fun x e => if fzn x = true then .ok x e else .bad := by rw [evE]
theorem ev_bin {o : Bop} {a b : LE} : evE phi (.bin o a b) e = (evE phi a e).andThen fun x e => (evE phi b e).andThen fun y e => lift (binop o x y) e := by rw [evE]
theorem ev_neg {a : LE} : evE phi (.neg a) e = (evE phi a e).andThen fun x e => negK x e := by
  rw [evE]; cases evE phi a e <;> first | rfl | (rename_i x e'; cases x <;> rfl)
theorem ev_cmp {o : Cop} {a b : LE} : evE phi (.cmp o a b) e = (evE phi a e).andThen fun x e => (evE phi b e).andThen fun y e => (lift (cmpop o x y) e).andThen fun r e => .ok (.bl r) e := by rw [evE]
theorem ev_chn {o p : Cop} {a b c : LE} : evE phi (.chn o p a b c) e = (evE phi a e).andThen fun x e => (evE phi b e).andThen fun y e => (lift (cmpop o x y) e).andThen fun r e =>
    if r = true then (evE phi c e).andThen fun z e => (lift (cmpop p y z) e).andThen fun r e => .ok (.bl r) e else .ok (.bl false) e := by rw [evE]
theorem ev_an {a b : LE} : evE phi (.an a b) e = (evE phi a e).andThen fun x e => selB x (evE phi b e) (.ok (.bl false) e) := by
  rw [evE]; cases evE phi a e <;> first | rfl | (rename_i x e'; cases x <;> first | rfl | (rename_i b; cases b <;> rfl))
theorem ev_orr {a b : LE} : evE phi (.orr a b) e = (evE phi a e).andThen fun x e => selB x (.ok (.bl true) e) (evE phi b e) := by
  rw [evE]; cases evE phi a e <;> first | rfl | (rename_i x e'; cases x <;> first | rfl | (rename_i b; cases b <;> rfl))
def orvK (x : D) (e : Env) (f : Res D) : Res D := match truD x with
  | some true => .ok x e
  | some false => f
  | none => .bad
theorem ev_orv {a b : LE} : evE phi (.orv a b) e = (evE phi a e).andThen fun x e => orvK x e (evE phi b e) := by rw [evE]; rfl
theorem ev_nt {a : LE} : evE phi (.nt a) e = (evE phi a e).andThen fun x e => notK x e := by
  rw [evE]; cases evE phi a e <;> first | rfl | (rename_i x e'; cases x <;> rfl)
theorem ev_ite {c a b : LE} : evE phi (.ite c a b) e = (evE phi c e).andThen fun x e => selB x (evE phi a e) (evE phi b e) := by
  rw [evE]; cases evE phi c e <;> first | rfl | (rename_i x e'; cases x <;> first | rfl | (rename_i b; cases b <;> rfl))
theorem ev_tup {es : LL} : evE phi (.tup es) e = (evL phi es e).andThen fun xs e => if xs.length ≤ sizeL then .ok (.tup true xs) e else .bad := by rw [evE]
theorem ev_lst {es : LL} : evE phi (.lst es) e = (evL phi es e).andThen fun xs e => if xs.length ≤ sizeL then .ok (.lst true xs) e else .bad := by rw [evE]
theorem ev_lss {es : LQ} : evE phi (.lss es) e = (evQ phi es e).andThen fun xs e => if xs.length ≤ sizeL then .ok (.lst true xs) e else .bad := by rw [evE]
theorem ev_ix {a b : LE} : evE phi (.ix a b) e = (evE phi a e).andThen fun x e => (evE phi b e).andThen fun y e => lift (ixD x y) e := by rw [evE]
theorem ev_sl {a : LE} {lo hi : LO} : evE phi (.sl a lo hi) e = (evE phi a e).andThen fun x e => (evO phi lo e).andThen fun l e => (evO phi hi e).andThen fun h e => lift (slD x l h) e := by rw [evE]
theorem ev_mn4 {a b : LE} : evE phi (.mn4 a b) e = (evE phi a e).andThen fun x e => (lift (prD x) e).andThen fun p e => (evE phi b e).andThen fun y e => (lift (prD y) e).andThen fun q e => .ok (.int (min (min (min p.1 p.2) q.1) q.2)) e := by rw [evE]
theorem ev_tdd {a b : LE} : evE phi (.tdd a b) e = (evE phi a e).andThen fun x e => (evE phi b e).andThen fun y e => if (keyT x && fzn x && scalD y) = true then .ok (.td [x] [y]) e else .bad := by rw [evE]
theorem ev_dsp {ks : List (List Nat)} {es : LL} : evE phi (.dsp ks es) e = (evL phi es e).andThen fun xs e => if (decide (ks.length = xs.length) && decide ks.Nodup && decide (ks ≠ []) && decide (ks.length ≤ 15)) = true then .ok (.dic ks xs) e else .bad := by rw [evE]
theorem ev_dlk {ps : List (List Nat × List Nat)} {a : LE} : evE phi (.dlk ps a) e = (evE phi a e).andThen fun x e => lift (dlkD ps x) e := by rw [evE]
theorem ev_fs3 {a b c : LE} : evE phi (.fs3 a b c) e = (evE phi a e).andThen fun x e => (lift (fmtD x) e).andThen fun s1 e => (evE phi b e).andThen fun y e => (lift (fmtD y) e).andThen fun s2 e => (evE phi c e).andThen fun z e => (lift (fmtD z) e).andThen fun s3 e => .ok (.str (s1 ++ (s2 ++ s3))) e := by rw [evE]
theorem ev_rev {a : LE} : evE phi (.rev a) e = (evE phi a e).andThen fun x e => lift (revD x) e := by rw [evE]
theorem ev_bi {f : Bi} {es : LL} : evE phi (.bi f es) e = (evL phi es e).andThen fun xs e => lift (biop f xs) e := by rw [evE]
theorem ev_bm {m : Bm} {a : LE} {es : LL} : evE phi (.bm m a es) e = (evE phi a e).andThen fun x e => if bmOk m x = true then (evL phi es e).andThen fun ys e => lift (bmop m x ys) e else .bad := by rw [evE]
/-- the list of an owned list -/
def lstK {α : Type} (d : D) (k : List D → Res α) : Res α := match d with
  | .lst true xs => k xs
  | _ => .bad
theorem lstK_lst {α : Type} {xs : List D} {k : List D → Res α} : lstK (.lst true xs) k = k xs := rfl
theorem ev_app {p : LP} {a : LE} : evE phi (.app p a) e = (evP phi p e).andThen fun q e => (lift (getP e q.1 q.2) e).andThen fun d e => lstK d fun _ => (evE phi a e).andThen fun x e => (lift (getP e q.1 q.2) e).andThen fun d e => lstK d fun xs =>
    if xs.length < sizeL then (lift (putP e q.1 q.2 (.lst true (xs ++ [x]))) e).andThen fun e' _ => .ok .non e' else .bad := by
  rw [evE]
  cases evP phi p e with
  | bad => rfl
  | xc _ _ _ => rfl
  | ok q e =>
    simp only [Res.andThen]
    cases lift (getP e q.1 q.2) e with
    | bad => rfl
    | xc _ _ _ => rfl
    | ok d e =>
      cases d <;> rfl
theorem ev_mm {m : Mm} {p : LP} {es : LL} : evE phi (.mm m p es) e = (evP phi p e).andThen fun q e => (lift (getP e q.1 q.2) e).andThen fun d e => lstK d fun _ => (evL phi es e).andThen fun ys e => (lift (getP e q.1 q.2) e).andThen fun d e => lstK d fun xs =>
    (lift (mmop m xs ys) e).andThen fun r e => (lift (putP e q.1 q.2 (.lst true r.1)) e).andThen fun e' _ => .ok r.2 e' := by
  rw [evE]
  cases evP phi p e with
  | bad => rfl
  | xc _ _ _ => rfl
  | ok q e =>
    simp only [Res.andThen]
    cases lift (getP e q.1 q.2) e with
    | bad => rfl
    | xc _ _ _ => rfl
    | ok d e =>
      cases d <;> rfl
theorem ev_pop {p : LP} : evE phi (.pop p) e = (evP phi p e).andThen fun q e => (lift (getP e q.1 q.2) e).andThen fun d e => lstK d fun xs => (lift xs.getLast? e).andThen fun x e => (lift (putP e q.1 q.2 (.lst true xs.dropLast)) e).andThen fun e' _ => .ok x e' := by
  rw [evE]
  cases evP phi p e with
  | bad => rfl
  | xc _ _ _ => rfl
  | ok q e =>
    simp only [Res.andThen]
    cases lift (getP e q.1 q.2) e with
    | bad => rfl
    | xc _ _ _ => rfl
    | ok d e => cases d <;> first | rfl | (rename_i m xs; cases m <;> rfl)
def popK (q : Nat × List Stp) (xs : List D) (k : D) (e : Env) : Res D := match k with
  | .int k => if xs.length ≤ sizeL then (lift (ixP xs.length k) e).andThen fun j e => (lift xs[j]? e).andThen fun x e => (lift (putP e q.1 q.2 (.lst true (xs.eraseIdx j))) e).andThen fun e' _ => .ok x e' else .bad
  | _ => .bad
theorem popK_int {q : Nat × List Stp} {xs : List D} {k : Int} : popK q xs (.int k) e = if xs.length ≤ sizeL then (lift (ixP xs.length k) e).andThen fun j e => (lift xs[j]? e).andThen fun x e => (lift (putP e q.1 q.2 (.lst true (xs.eraseIdx j))) e).andThen fun e' _ => .ok x e' else .bad := rfl
theorem ev_popi {p : LP} {a : LE} : evE phi (.popi p a) e = (evP phi p e).andThen fun q e => (lift (getP e q.1 q.2) e).andThen fun d e => lstK d fun xs => (evE phi a e).andThen fun k e => popK q xs k e := by
  rw [evE]
  cases evP phi p e with
  | bad => rfl
  | xc _ _ _ => rfl
  | ok q e =>
    simp only [Res.andThen]
    cases lift (getP e q.1 q.2) e with
    | bad => rfl
    | xc _ _ _ => rfl
    | ok d e =>
      cases d <;> first | rfl | (rename_i m xs; cases m <;> first | rfl | (simp only [lstK]; cases evE phi a e <;> first | rfl | (rename_i k e'; cases k <;> rfl)))
theorem ev_lc {own : List Nat} {s : LI} {t : LT} {cd : LO} {a : LE} : evE phi (.lc own s t cd a) e = (evI phi s e).andThen fun xs e => if xs.length ≤ sizeL then (lift (clrA e own) e).andThen fun e _ =>
      (loopC (fun x e => noX ((lift (tgt t x e) e).andThen fun e _ => (evC phi cd e).andThen fun b e => if b = true then (evE phi a e).andThen fun y e => (lift (clrA e own) e).andThen fun e _ => .ok (some y) e
        else (lift (clrA e own) e).andThen fun e _ => .ok none e)) xs e).andThen fun ys e => .ok (.lst true ys) e else .bad := by rw [evE]
/-! places -/
theorem evp_s {i : Nat} : evP phi (.s i) e = (lift (getS e i) e).andThen fun _ e => .ok (i, []) e := by rw [evP]
def plK (q : Nat × List Stp) (d k : D) (e : Env) : Res (Nat × List Stp) := match itemsT? d, k with
  | some xs, .int k => (lift (ixP xs.length k) e).andThen fun j e => if j < xs.length then .ok (q.1, q.2 ++ [.at j]) e else .bad
  | none, .str s => (match d with
    | .dic ks xs => (lift (keyI ks s) e).andThen fun j e => if j < xs.length then .ok (q.1, q.2 ++ [.at j]) e else .bad
    | _ => .bad)
  | _, _ => .bad
theorem plK_dic {q : Nat × List Stp} {ks : List (List Nat)} {xs : List D} {s : List Nat} : plK q (.dic ks xs) (.str s) e = (lift (keyI ks s) e).andThen fun j e => if j < xs.length then .ok (q.1, q.2 ++ [.at j]) e else .bad := rfl
theorem plK_lst {q : Nat × List Stp} {xs : List D} {k : Int} : plK q (.lst true xs) (.int k) e = (lift (ixP xs.length k) e).andThen fun j e => if j < xs.length then .ok (q.1, q.2 ++ [.at j]) e else .bad := rfl
theorem evp_ix {p : LP} {a : LE} : evP phi (.ix p a) e = (evP phi p e).andThen fun q e => (evE phi a e).andThen fun k e => (lift (getP e q.1 q.2) e).andThen fun d e => plK q d k e := by
  rw [evP]
  cases evP phi p e with
  | bad => rfl
  | xc _ _ _ => rfl
  | ok q e =>
    simp only [Res.andThen]
    cases evE phi a e with
    | bad => rfl
    | xc _ _ _ => rfl
    | ok k e =>
      simp only []
      cases lift (getP e q.1 q.2) e with
      | bad => rfl
      | xc _ _ _ => rfl
      | ok d e =>
        simp only [plK]
        cases itemsT? d with
        | none => cases k <;> first | rfl | (cases d <;> rfl)
        | some xs => cases k <;> rfl
theorem getP_nil {i : Nat} : getP e i [] = getS e i := by
  unfold getP
  cases getS e i <;> rfl
theorem putP_nil {i : Nat} {y : D} : putP e i [] y = (getS e i).bind fun _ => putS e i y := by
  unfold putP
  cases getS e i with
  | none => rfl
  | some d => cases d <;> rfl
/-- the whole of a store into a list's place -/
def stK (q : Nat × List Stp) (d k x : D) (e : Env) : Res Fl := match d, k with
  | .lst true xs, .int k => (lift (ixP xs.length k) e).andThen fun j e => (lift (putP e q.1 q.2 (.lst true (xs.set j x))) e).andThen fun e _ => .ok .nx e
  | _, _ => .bad
theorem stK_lst {q : Nat × List Stp} {xs : List D} {k : Int} {x : D} : stK q (.lst true xs) (.int k) x e = (lift (ixP xs.length k) e).andThen fun j e => (lift (putP e q.1 q.2 (.lst true (xs.set j x))) e).andThen fun e _ => .ok .nx e := rfl
theorem es_st {p : LP} {k a : LE} : evS phi wf (.st p k a) e = (evE phi a e).andThen fun x e => (evP phi p e).andThen fun q e => (evE phi k e).andThen fun k e => (lift (getP e q.1 q.2) e).andThen fun d e => stK q d k x e := by
  rw [evS]
  cases evE phi a e with
  | bad => rfl
  | xc _ _ _ => rfl
  | ok x e =>
    simp only [Res.andThen]
    cases evP phi p e with
    | bad => rfl
    | xc _ _ _ => rfl
    | ok q e =>
      simp only []
      cases evE phi k e with
      | bad => rfl
      | xc _ _ _ => rfl
      | ok k e =>
        simp only []
        cases lift (getP e q.1 q.2) e with
        | bad => rfl
        | xc _ _ _ => rfl
        | ok d e => cases d <;> first | rfl | (cases k <;> first | rfl | (rename_i m xs _; cases m <;> rfl) | (rename_i m xs; cases m <;> rfl))
/-- a list and a place -/
def lstI (d k : D) (f : List D → Int → Res Fl) : Res Fl := match d, k with
  | .lst true xs, .int k => f xs k
  | _, _ => .bad
theorem lstI_eq {xs : List D} {k : Int} {f : List D → Int → Res Fl} : lstI (.lst true xs) (.int k) f = f xs k := rfl
theorem es_stA {p : LP} {k a : LE} {o : Bop} : evS phi wf (.stA p k o a) e = (evP phi p e).andThen fun q e => (evE phi k e).andThen fun k e => (lift (getP e q.1 q.2) e).andThen fun d e => lstI d k fun xs k =>
    (lift (ixP xs.length k) e).andThen fun j e => (lift xs[j]? e).andThen fun x e => if scalD x = true then (evE phi a e).andThen fun y e => (lift (iop o x y) e).andThen fun z e => (lift (putP e q.1 q.2 (.lst true (xs.set j z))) e).andThen fun e _ => .ok .nx e else .bad := by
  rw [evS]
  cases evP phi p e with
  | bad => rfl
  | xc _ _ _ => rfl
  | ok q e =>
    simp only [Res.andThen]
    cases evE phi k e with
    | bad => rfl
    | xc _ _ _ => rfl
    | ok k e =>
      simp only []
      cases lift (getP e q.1 q.2) e with
      | bad => rfl
      | xc _ _ _ => rfl
      | ok d e => cases d <;> first | rfl | (cases k <;> first | rfl | (rename_i m xs _; cases m <;> rfl) | (rename_i m xs; cases m <;> rfl))
theorem es_skA {p : LP} {k a : LE} {o : Bop} : evS phi wf (.skA p k o a) e = (evP phi p e).andThen fun q e => (evE phi k e).andThen fun k e => (lift (getP e q.1 q.2) e).andThen fun d e => (lift (dicGet d k) e).andThen fun x e => if scalD x = true then (evE phi a e).andThen fun y e => (lift (iop o x y) e).andThen fun z e =>
      (lift (dicSet d k z) e).andThen fun w e => (lift (putP e q.1 q.2 w) e).andThen fun e _ => .ok .nx e else .bad := by rw [evS]
theorem es_stk {p : LP} {k a : LE} : evS phi wf (.stk p k a) e = (evE phi a e).andThen fun x e => (evP phi p e).andThen fun q e => (evE phi k e).andThen fun k e => (lift (getP e q.1 q.2) e).andThen fun d e => (lift (dicSet d k x) e).andThen fun z e => (lift (putP e q.1 q.2 z) e).andThen fun e _ => .ok .nx e := by rw [evS]
theorem es_stt {p : LP} {k a : LE} : evS phi wf (.stt p k a) e = (evE phi a e).andThen fun x e => (evP phi p e).andThen fun q e => (evE phi k e).andThen fun k e => (lift (getP e q.1 q.2) e).andThen fun d e => (lift (tdSet d k x) e).andThen fun z e => (lift (putP e q.1 q.2 z) e).andThen fun e _ => .ok .nx e := by rw [evS]
theorem es_stl {p : LP} {lo hi a : LE} : evS phi wf (.stl p lo hi a) e = (evE phi a e).andThen fun x e => (evP phi p e).andThen fun q e => (evE phi lo e).andThen fun l e => (evE phi hi e).andThen fun h e => (lift (getP e q.1 q.2) e).andThen fun d e => (lift (stlD d l h x) e).andThen fun zs e => (lift (putP e q.1 q.2 (.lst true zs)) e).andThen fun e _ => .ok .nx e := by rw [evS]
theorem evl_nil : evL phi .nil e = .ok [] e := by rw [evL]
theorem evl_cons {a : LE} {r : LL} : evL phi (.cons a r) e = (evE phi a e).andThen fun x e => (evL phi r e).andThen fun xs e => .ok (x :: xs) e := by rw [evL]
theorem evq_nil : evQ phi .nil e = .ok [] e := by rw [evQ]
theorem evq_cons {a : LE} {r : LQ} : evQ phi (.cons a r) e = (evE phi a e).andThen fun x e => (evQ phi r e).andThen fun xs e => .ok (x :: xs) e := by rw [evQ]
theorem evq_star {a : LE} {r : LQ} : evQ phi (.star a r) e = (evE phi a e).andThen fun x e => (lift (starI x) e).andThen fun ys e => (evQ phi r e).andThen fun xs e => .ok (ys ++ xs) e := by rw [evQ]
theorem evo_no : evO phi .no e = .ok none e := by rw [evO]
theorem evo_so {a : LE} : evO phi (.so a) e = (evE phi a e).andThen fun x e => intK x e := by
  rw [evO]; cases evE phi a e <;> first | rfl | (rename_i x e'; cases x <;> rfl)
theorem evc_no : evC phi .no e = .ok true e := by rw [evC]
theorem evc_so {a : LE} : evC phi (.so a) e = (evE phi a e).andThen fun x e => blK x e := by
  rw [evC]; cases evE phi a e <;> first | rfl | (rename_i x e'; cases x <;> rfl)
theorem evi_val {a : LE} : evI phi (.val a) e = (evE phi a e).andThen fun x e => lift (itemsOf x) e := by rw [evI]
theorem evi_enu {a : LE} : evI phi (.enu a) e = (evE phi a e).andThen fun x e => (lift (enuOf x) e).andThen fun xs e => .ok (enumI xs) e := by rw [evI]
theorem evi_zip {a b : LE} : evI phi (.zip a b) e = (evE phi a e).andThen fun x e => (evE phi b e).andThen fun y e => lift (zipO x y) e := by rw [evI]
theorem evi_rng1 {a : LE} : evI phi (.rng1 a) e = (evE phi a e).andThen fun x e => rngK x e := by
  rw [evI]; cases evE phi a e <;> first | rfl | (rename_i x e'; cases x <;> rfl)
theorem evi_rng2 {a b : LE} : evI phi (.rng2 a b) e = (evE phi a e).andThen fun x e => (evE phi b e).andThen fun y e => rngK2 x y e := by
  rw [evI]
  cases evE phi a e with
  | bad => rfl
  | xc _ _ _ => rfl
  | ok x e =>
    simp only [Res.andThen]
    cases evE phi b e with
    | bad => rfl
    | xc _ _ _ => rfl
    | ok y e => cases x <;> cases y <;> rfl
/-! statements -/
theorem eb_nil : evB phi wf .nil e = .ok .nx e := by rw [evB]
theorem eb_cons {a : LS} {r : LB} : evB phi wf (.cons a r) e = (evS phi wf a e).andThen fun f e => nxK f (evB phi wf r) e := by
  rw [evB]; cases evS phi wf a e <;> first | rfl | (rename_i x e'; cases x <;> rfl)
theorem es_asg {t : LT} {a : LE} : evS phi wf (.asg t a) e = (evE phi a e).andThen fun x e => (lift (tgt t x e) e).andThen fun e _ => .ok .nx e := by rw [evS]
theorem es_aug {i : Nat} {o : Bop} {a : LE} : evS phi wf (.aug i o a) e = (lift (getS e i) e).andThen fun x e => if scalD x = true then (evE phi a e).andThen fun y e => (lift (iop o x y) e).andThen fun z e => (lift (setS e i z) e).andThen fun e _ => .ok .nx e else .bad := by rw [evS]
theorem es_ex {a : LE} : evS phi wf (.ex a) e = (evE phi a e).andThen fun _ e => .ok .nx e := by rw [evS]
theorem es_iff {c : LE} {a b : LB} : evS phi wf (.iff c a b) e = (evE phi c e).andThen fun x e => selB x (evB phi wf a e) (evB phi wf b e) := by
  rw [evS]; cases evE phi c e <;> first | rfl | (rename_i x e'; cases x <;> first | rfl | (rename_i b; cases b <;> rfl))
theorem es_whl {c : LE} {b : LB} : evS phi wf (.whl c b) e = whileR (evE phi c) (evB phi wf b) wf e := by rw [evS]
theorem es_forr {t : LT} {s : LI} {b : LB} : evS phi wf (.forr t s b) e = (evI phi s e).andThen fun xs e => loopF (fun x e => (lift (tgt t x e) e).andThen fun e _ => evB phi wf b e) xs e := by rw [evS]
theorem es_ret {a : LE} : evS phi wf (.ret a) e = (evE phi a e).andThen fun x e => .ok (.rt x) e := by rw [evS]
theorem es_retn : evS phi wf .retn e = .ok (.rt .non) e := by rw [evS]
theorem es_brk : evS phi wf .brk e = .ok .bk e := by rw [evS]
theorem es_cnt : evS phi wf .cnt e = .ok .ct e := by rw [evS]
theorem es_ps : evS phi wf .ps e = .ok .nx e := by rw [evS]
/-! exceptions -/
def isxK (k : Nat) (x : D) (e : Env) : Res D := match x with
  | .exc c _ => .ok (.bl (subX c k)) e
  | _ => .bad
theorem isxK_exc {k c : Nat} {d : D} {e : Env} : isxK k (.exc c d) e = .ok (.bl (subX c k)) e := rfl
def mkxK (c : Nat) (x : D) (e : Env) : Res D := if fmtX x then .ok (.exc c x) e else .bad
theorem ev_mkx {c : Nat} {kw : Bool} {a : LE} : evE phi (.mkx c kw a) e = (evE phi a e).andThen fun x e => mkxK c x e := by
  simp only [evE, mkxK]
theorem ev_isz {ks : List Nat} {e : Env} : evE phi (.isz ks) e = if ks.all (fun k => decide (k ≠ 0)) then .ok (.bl false) e else .bad := by simp only [evE]
theorem ev_isx {a : LE} {k : Nat} : evE phi (.isx a k) e = (evE phi a e).andThen fun x e => isxK k x e := by
  rw [evE]; cases evE phi a e <;> first | rfl | (rename_i x e'; cases x <;> rfl)
def xvK (x : D) (e : Env) : Res D := match x with
  | .exc _ d => .ok d e
  | _ => .bad
theorem xvK_exc {c : Nat} {d : D} {e : Env} : xvK (.exc c d) e = .ok d e := rfl
theorem ev_xv {a : LE} : evE phi (.xv a) e = (evE phi a e).andThen fun x e => xvK x e := by
  rw [evE]; cases evE phi a e <;> first | rfl | (rename_i x e'; cases x <;> rfl)
theorem ev_lm {cnt : Bool} {d : D} {a : LE} : evE phi (.lm cnt d a) e = (evE phi a e).andThen fun x e => lift (lmop cnt d x) e := by rw [evE]
theorem es_rse {c : Nat} {a : LE} : evS phi wf (.rse c a) e = (evE phi a e).andThen fun x e => if fmtX x = true then .xc c x e else .bad := by rw [evS]
def tryK (k i : Nat) (h : Env → Res Fl) (r : Res Fl) : Res Fl := match r with
  | .ok f e => .ok f e
  | .bad => .bad
  | .xc c d e => if subX c k = true then (lift (setS e i (.exc c d)) e).andThen fun e _ => (noX (h e)).andThen fun f e => (lift (clrS e i) e).andThen fun e _ => .ok f e else .xc c d e
theorem tryK_ok {k i : Nat} {h : Env → Res Fl} {f : Fl} {e : Env} : tryK k i h (.ok f e) = .ok f e := rfl
theorem tryK_xc {k i : Nat} {h : Env → Res Fl} {c : Nat} {d : D} {e : Env} : tryK k i h (.xc c d e) = if subX c k = true then (lift (setS e i (.exc c d)) e).andThen fun e _ => (noX (h e)).andThen fun f e => (lift (clrS e i) e).andThen fun e _ => .ok f e else .xc c d e := rfl
theorem tryK_if {k i : Nat} {h : Env → Res Fl} {c : Prop} [Decidable c] {a b : Res Fl} : tryK k i h (if c then a else b) = if c then tryK k i h a else tryK k i h b := by split <;> rfl
theorem es_tryx {b h : LB} {k i : Nat} : evS phi wf (.tryx b k i h) e = tryK k i (evB phi wf h) (evB phi wf b e) := by
  rw [evS]; cases evB phi wf b e <;> rfl
end
/-! small lengths -/
theorem sz_0 : (0 ≤ sizeL) = True := eq_true (by decide)
theorem sz_1 : (1 ≤ sizeL) = True := eq_true (by decide)
theorem sz_2 : (2 ≤ sizeL) = True := eq_true (by decide)
theorem sz_3 : (3 ≤ sizeL) = True := eq_true (by decide)
theorem sz_4 : (4 ≤ sizeL) = True := eq_true (by decide)
theorem sz_5 : (5 ≤ sizeL) = True := eq_true (by decide)
theorem sz_6 : (6 ≤ sizeL) = True := eq_true (by decide)
theorem sz_7 : (7 ≤ sizeL) = True := eq_true (by decide)
theorem sz_8 : (8 ≤ sizeL) = True := eq_true (by decide)
theorem sz_9 : (9 ≤ sizeL) = True := eq_true (by decide)
theorem sz_10 : (10 ≤ sizeL) = True := eq_true (by decide)
theorem sz_11 : (11 ≤ sizeL) = True := eq_true (by decide)
theorem sz_12 : (12 ≤ sizeL) = True := eq_true (by decide)
/-! enumerate -/
def enumK : Nat → List D → List D
  | _, [] => []
  | k, x :: xs => .tup true [.int (k : Nat), x] :: enumK (k + 1) xs
theorem enumK_eq : ∀ (xs : List D) (k : Nat), (List.range' k xs.length).zipWith (fun i x => D.tup true [.int (i : Nat), x]) xs = enumK k xs
  | [], k => rfl
  | x :: xs, k => by rw [List.length_cons, List.range'_succ, List.zipWith_cons_cons, enumK_eq xs (k + 1)]; rfl
theorem enumI_eq (xs : List D) : enumI xs = enumK 0 xs := by
  unfold enumI
  rw [List.range_eq_range']
  exact enumK_eq xs 0
/-! the run of a def -/
theorem outs_v {r : List PM} {x : Slot} {e : Env} : outs (.val :: r) (x :: e) = (outs r e).map (none :: ·) := by cases x <;> rfl
theorem outs_p {r : List PM} {d : D} {e : Env} : outs (.io :: r) (.pn d :: e) = (outs r e).map (some d :: ·) := rfl
theorem outs_0 {e : Env} : outs [] e = some [] := by cases e <;> rfl
theorem run_rt {tbl : Nat → Option Fn} {wf i n : Nat} {F : Fn} {ms : List PM} {ds : List D} {e0 e1 : Env} {d : D} {os : List (Option D)} (hF : tbl i = some F) (hm : ms = F.io) (h0 : env0 ms ds = some e0)
    (hb : evB (run tbl wf n) wf F.b (e0 ++ List.replicate (F.n - F.io.length) .no) = .ok (.rt d) e1) (ho : outs ms e1 = some os) : run tbl wf (n + 1) i ms ds = .ok d os := by
  rw [run_eq hF]
  unfold runF
  rw [if_pos hm]
  subst hm
  rw [h0]
  simp only []
  rw [hb]
  simp only [endF, ho]
theorem run_nx {tbl : Nat → Option Fn} {wf i n : Nat} {F : Fn} {ms : List PM} {ds : List D} {e0 e1 : Env} {os : List (Option D)} (hF : tbl i = some F) (hm : ms = F.io) (h0 : env0 ms ds = some e0)
    (hb : evB (run tbl wf n) wf F.b (e0 ++ List.replicate (F.n - F.io.length) .no) = .ok .nx e1) (ho : outs ms e1 = some os) : run tbl wf (n + 1) i ms ds = .ok .non os := by
  rw [run_eq hF]
  unfold runF
  rw [if_pos hm]
  subst hm
  rw [h0]
  simp only []
  rw [hb]
  simp only [endF, ho]
theorem run_xc {tbl : Nat → Option Fn} {wf i n : Nat} {F : Fn} {ms : List PM} {ds : List D} {e0 e1 : Env} {c : Nat} {d : D} {os : List (Option D)} (hF : tbl i = some F) (hm : ms = F.io) (h0 : env0 ms ds = some e0)
    (hb : evB (run tbl wf n) wf F.b (e0 ++ List.replicate (F.n - F.io.length) .no) = .xc c d e1) (ho : outs ms e1 = some os) : run tbl wf (n + 1) i ms ds = .xc c d os := by
  rw [run_eq hF]
  unfold runF
  rw [if_pos hm]
  subst hm
  rw [h0]
  simp only []
  rw [hb]
  simp only [endF, ho]
/-- by weakest preconditions -/
theorem run_W {tbl : Nat → Option Fn} {wf i n : Nat} {F : Fn} {ms : List PM} {ds : List D} {e0 : Env} {Q : D → List (Option D) → Prop} (hF : tbl i = some F) (hm : ms = F.io) (h0 : env0 ms ds = some e0)
    (hb : W (evB (run tbl wf n) wf F.b (e0 ++ List.replicate (F.n - F.io.length) .no)) fun f e => ∃ d os, (f = .rt d ∨ (f = .nx ∧ d = .non)) ∧ outs ms e = some os ∧ Q d os) : ∃ d os, run tbl wf (n + 1) i ms ds = .ok d os ∧ Q d os := by
  obtain ⟨f, e, h1, d, os, h2, h3, h4⟩ := W_ex hb
  refine ⟨d, os, ?_, h4⟩
  rcases h2 with rfl | ⟨rfl, rfl⟩
  · exact run_rt hF hm h0 h1 h3
  · exact run_nx hF hm h0 h1 h3
/-! targets, at an environment that is seen -/
theorem tgt_nm {i : Nat} {d : D} {x : Slot} {r : Env} : tgt (.nm i) d (x :: r) = setS (x :: r) i d := by rw [tgt]
theorem tgt_tup {a r : LT} {m : Bool} {xs : List D} {x : Slot} {e : Env} : tgt (.cons a r) (.tup m xs) (x :: e) = tgts (.cons a r) xs (x :: e) := by rw [tgt]
theorem tgt_lst {a r : LT} {m : Bool} {xs : List D} {x : Slot} {e : Env} : tgt (.cons a r) (.lst m xs) (x :: e) = tgts (.cons a r) xs (x :: e) := by rw [tgt]
theorem tgts_cons {a r : LT} {y : D} {xs : List D} {x : Slot} {e : Env} : tgts (.cons a r) (y :: xs) (x :: e) = (tgt a y (x :: e)).bind fun e' => tgts r xs e' := by rw [tgts]
theorem tgts_nil {e : Env} : tgts .nil [] e = some e := by rw [tgts]
end Z

set_option Elab.async false
set_option linter.all false
set_option maxRecDepth 100000
set_option maxHeartbeats 2000000
/-! M2: play by rules; rules that do the same. No program here. -/
namespace Z
/-- one more unit of a side (true: A) -/
def unitS (a : Bool) (s : Int × Int) : Int × Int := if a = true then (s.1 + 1, s.2) else (s.1, s.2 + 1)
def mineS (a : Bool) (s : Int × Int) : Int := if a = true then s.1 else s.2
def othS (a : Bool) (s : Int × Int) : Int := if a = true then s.2 else s.1
/-- the side that has just scored has won -/
def wonS (r : Int × Int) (a : Bool) (s : Int × Int) : Bool := decide (r.1 ≤ mineS a s) && decide (r.2 ≤ mineS a s - othS a s)
/-- one point: is the match over, and the scores -/
def nextS : List (Int × Int) → List (Int × Int) → Bool → Bool × List (Int × Int)
  | r :: g, s :: sc, a => if wonS r a (unitS a s) = true then (if g = [] then (true, [unitS a s]) else ((nextS g sc a).1, (0, 0) :: (nextS g sc a).2)) else (false, unitS a s :: sc)
  | _, _, _ => (true, [])
/-- the winner, how many points, the scores -/
def runS (g : List (Int × Int)) : List (Int × Int) → List Bool → Nat → Option Bool × Nat × List (Int × Int)
  | sc, [], k => (none, k, sc)
  | sc, a :: l, k => if (nextS g sc a).1 = true then (some a, k + 1, (nextS g sc a).2) else runS g (nextS g sc a).2 l (k + 1)
def zerosS (g : List (Int × Int)) : List (Int × Int) := g.map fun _ => (0, 0)
theorem nextS_len : ∀ {g sc : List (Int × Int)} {a : Bool}, g.length = sc.length → (nextS g sc a).2.length = sc.length
  | [], [], _, _ => rfl
  | [], _ :: _, _, h => by simp at h
  | _ :: _, [], _, h => by simp at h
  | r :: g, s :: sc, a, h => by
    simp only [nextS]
    have h' : g.length = sc.length := by simpa using h
    split
    · split
      · rename_i hg
        subst hg
        have : sc = [] := List.length_eq_zero_iff.mp h'.symm
        subst this; rfl
      · simp [nextS_len h']
    · rfl
/-! ### machines -/
structure Mach where
  St : Type
  ini : St
  step : St → Bool → Option St
def Mach.race (M : Mach) (r : Int × Int) : Mach where
  St := M.St × (Int × Int)
  ini := (M.ini, (0, 0))
  step := fun s a => match M.step s.1 a with
    | some t => some (t, s.2)
    | none => if wonS r a (unitS a s.2) = true then none else some (M.ini, unitS a s.2)
def point : Mach where
  St := Unit
  ini := ()
  step := fun _ _ => none
def mach : Mach → List (Int × Int) → Mach
  | M, [] => M
  | M, r :: g => mach (M.race r) g
def runM (M : Mach) : M.St → List Bool → Nat → Option Bool × Nat
  | s, [], k => (none, k)
  | s, a :: l, k => match M.step s a with
    | none => (some a, k + 1)
    | some t => runM M t l (k + 1)
def stOf : (M : Mach) → M.St → (g : List (Int × Int)) → List (Int × Int) → (mach M g).St
  | M, b, [], _ => b
  | M, b, r :: g, [] => stOf (M.race r) (b, (0, 0)) g []
  | M, b, r :: g, s :: sc => stOf (M.race r) (b, s) g sc
theorem step_some : ∀ (g : List (Int × Int)) (M : Mach) (b b' : M.St) (sc : List (Int × Int)) (a : Bool), M.step b a = some b' → (mach M g).step (stOf M b g sc) a = some (stOf M b' g sc)
  | [], M, b, b', sc, a, h => h
  | r :: g, M, b, b', [], a, h => step_some g (M.race r) _ _ [] a (by simp [Mach.race, h])
  | r :: g, M, b, b', s :: sc, a, h => step_some g (M.race r) _ _ sc a (by simp [Mach.race, h])
theorem step_none : ∀ (g : List (Int × Int)) (M : Mach) (b : M.St) (sc : List (Int × Int)) (a : Bool), g.length = sc.length → M.step b a = none →
    (mach M g).step (stOf M b g sc) a = if (nextS g sc a).1 = true then none else some (stOf M M.ini g (nextS g sc a).2)
  | [], M, b, sc, a, _, h => by simp [mach, stOf, nextS, h]
  | r :: g, M, b, [], a, hl, h => by simp at hl
  | r :: g, M, b, s :: sc, a, hl, h => by
    have hl' : g.length = sc.length := by simpa using hl
    show (mach (M.race r) g).step (stOf (M.race r) (b, s) g sc) a = _
    by_cases hw : wonS r a (unitS a s) = true
    · have e : (M.race r).step (b, s) a = none := by simp [Mach.race, h, hw]
      rw [step_none g (M.race r) (b, s) sc a hl' e]
      by_cases hg : g = []
      · subst hg
        have hn : nextS [r] (s :: sc) a = (true, [unitS a s]) := by simp [nextS, hw]
        simp only [hn]
        simp [nextS]
        rfl
      · have hn : nextS (r :: g) (s :: sc) a = ((nextS g sc a).1, (0, 0) :: (nextS g sc a).2) := by simp [nextS, hw, hg]
        simp only [hn]
        rfl
    · have hn : nextS (r :: g) (s :: sc) a = (false, unitS a s :: sc) := by simp [nextS, hw]
      have e : (M.race r).step (b, s) a = some (M.ini, unitS a s) := by simp [Mach.race, h, hw]
      rw [step_some g (M.race r) _ _ sc a e]
      simp only [hn]
      rfl
theorem runS_runM (g : List (Int × Int)) : ∀ (l : List Bool) (sc : List (Int × Int)) (k : Nat), g.length = sc.length → ((runS g sc l k).1, (runS g sc l k).2.1) = runM (mach point g) (stOf point () g sc) l k
  | [], sc, k, _ => rfl
  | a :: l, sc, k, h => by
    simp only [runS, runM]
    rw [step_none g point () sc a h rfl]
    by_cases hw : (nextS g sc a).1 = true
    · rw [if_pos hw, if_pos hw]
    · rw [if_neg hw, if_neg hw]
      exact runS_runM g l _ _ (by rw [nextS_len h]; exact h)
/-! ### the same behaviour -/
def Sim (M N : Mach) : Prop := ∃ R : M.St → N.St → Prop, R M.ini N.ini ∧ ∀ s t, R s t → ∀ a, match M.step s a, N.step t a with
  | none, none => True
  | some s', some t' => R s' t'
  | _, _ => False
theorem Sim.refl (M : Mach) : Sim M M := ⟨Eq, rfl, fun s t h a => by subst h; cases M.step s a <;> simp⟩
theorem Sim.symm {M N : Mach} : Sim M N → Sim N M
  | ⟨R, h0, h⟩ => ⟨fun t s => R s t, h0, fun t s r a => by
    have := h s t r a
    cases h1 : M.step s a <;> cases h2 : N.step t a <;> simp_all⟩
theorem Sim.trans {M N P : Mach} : Sim M N → Sim N P → Sim M P
  | ⟨R, h0, h⟩, ⟨S, k0, k⟩ => ⟨fun s u => ∃ t, R s t ∧ S t u, ⟨_, h0, k0⟩, fun s u ⟨t, r, q⟩ a => by
    have h1 := h s t r a
    have h2 := k t u q a
    cases e1 : M.step s a <;> cases e2 : N.step t a <;> cases e3 : P.step u a <;> simp_all
    exact ⟨_, h1, h2⟩⟩
theorem Sim.run {M N : Mach} {R : M.St → N.St → Prop} (h : ∀ s t, R s t → ∀ a, match M.step s a, N.step t a with
  | none, none => True
  | some s', some t' => R s' t'
  | _, _ => False) : ∀ (l : List Bool) (s : M.St) (t : N.St) (k : Nat), R s t → runM M s l k = runM N t l k
  | [], s, t, k, _ => rfl
  | a :: l, s, t, k, r => by
    have := h s t r a
    simp only [runM]
    cases e1 : M.step s a with
    | none =>
      cases e2 : N.step t a with
      | none => rfl
      | some t' => rw [e1, e2] at this; exact this.elim
    | some s' =>
      cases e2 : N.step t a with
      | none => rw [e1, e2] at this; exact this.elim
      | some t' => rw [e1, e2] at this; exact Sim.run h l _ _ _ this
theorem Sim.race {M N : Mach} (r : Int × Int) : Sim M N → Sim (M.race r) (N.race r)
  | ⟨R, h0, h⟩ => ⟨fun s t => R s.1 t.1 ∧ s.2 = t.2, ⟨h0, rfl⟩, fun s t q a => by
    obtain ⟨q1, q2⟩ := q
    have := h s.1 t.1 q1 a
    simp only [Mach.race]
    cases e1 : M.step s.1 a <;> cases e2 : N.step t.1 a <;> simp only [e1, e2] at this
    · rw [q2]
      by_cases hw : wonS r a (unitS a t.2) = true
      · simp [hw]
      · simp [hw, h0]
    · exact ⟨this, q2⟩⟩
theorem Sim.mach {M N : Mach} : ∀ (g : List (Int × Int)), Sim M N → Sim (mach M g) (mach N g)
  | [], h => h
  | r :: g, h => Sim.mach g (h.race r)
theorem mach_app (M : Mach) : ∀ f g : List (Int × Int), mach M (f ++ g) = mach (mach M f) g := by
  intro f
  induction f generalizing M with
  | nil => intro g; rfl
  | cons r f ih => intro g; exact ih (M.race r) g
/-- (1, 1) does nothing -/
theorem Sim.one (M : Mach) : Sim (M.race (1, 1)) M := ⟨fun s t => s.1 = t ∧ s.2 = (0, 0), ⟨rfl, rfl⟩, fun s t q a => by
  obtain ⟨q1, q2⟩ := q
  simp only [Mach.race, q1, q2]
  cases e : M.step t a with
  | some u => simp
  | none => cases a <;> simp [wonS, unitS, mineS, othS]⟩
/-- two neighbours that only ask for a lead -/
theorem lead_step {m k : Int} (hm : 1 ≤ m) (hk : 1 ≤ k) {p q : Int} (h1 : p < m) (h2 : q < k) : m * q + p < m * k := by
  have : m * q ≤ m * (k - 1) := Int.mul_le_mul_of_nonneg_left (by omega) (by omega)
  rw [Int.mul_sub] at this
  omega
theorem Sim.two (M : Mach) {m k : Int} (hm : 1 ≤ m) (hk : 1 ≤ k) : Sim ((M.race (m, m)).race (k, k)) (M.race (m * k, m * k)) := by
  refine ⟨fun s t => s.1.1 = t.1 ∧ (0 ≤ s.1.2.1 ∧ 0 ≤ s.1.2.2 ∧ -m < s.1.2.1 - s.1.2.2 ∧ s.1.2.1 - s.1.2.2 < m) ∧ (0 ≤ s.2.1 ∧ 0 ≤ s.2.2 ∧ -k < s.2.1 - s.2.2 ∧ s.2.1 - s.2.2 < k) ∧
    (0 ≤ t.2.1 ∧ 0 ≤ t.2.2) ∧ t.2.1 - t.2.2 = m * (s.2.1 - s.2.2) + (s.1.2.1 - s.1.2.2), ?_, ?_⟩
  · exact ⟨rfl, by simp [Mach.race]; omega, by simp [Mach.race]; omega, by simp [Mach.race], by simp [Mach.race]⟩
  · rintro ⟨⟨s, p⟩, q⟩ ⟨t, u⟩ ⟨h0, h1, h2, h3, h4⟩ a
    simp only at h0 h1 h2 h3 h4
    subst h0
    obtain ⟨p1, p2⟩ := p
    obtain ⟨q1, q2⟩ := q
    obtain ⟨u1, u2⟩ := u
    simp only at h1 h2 h3 h4
    simp only [Mach.race]
    cases e : M.step s a with
    | some v => exact ⟨rfl, h1, h2, h3, h4⟩
    | none =>
      cases a with
      | true =>
        simp only [unitS, wonS, mineS, othS, if_true]
        have c1 : (decide (m ≤ p1 + 1) && decide (m ≤ p1 + 1 - p2)) = decide (m ≤ p1 + 1 - p2) := by
          by_cases h : m ≤ p1 + 1 - p2
          · simp [h]; omega
          · simp [h]
        have c2 : (decide (k ≤ q1 + 1) && decide (k ≤ q1 + 1 - q2)) = decide (k ≤ q1 + 1 - q2) := by
          by_cases h : k ≤ q1 + 1 - q2
          · simp [h]; omega
          · simp [h]
        have c3 : (decide (m * k ≤ u1 + 1) && decide (m * k ≤ u1 + 1 - u2)) = decide (m * k ≤ u1 + 1 - u2) := by
          by_cases h : m * k ≤ u1 + 1 - u2
          · simp [h]; omega
          · simp [h]
        rw [c1, c2, c3]
        have e1 : m * (q1 + 1 - q2) = m * (q1 - q2) + m := by
          rw [show q1 + 1 - q2 = (q1 - q2) + 1 by omega, Int.mul_add, Int.mul_one]
        by_cases hp : m ≤ p1 + 1 - p2
        · by_cases hq : k ≤ q1 + 1 - q2
          · have e2 : q1 - q2 = k - 1 := by omega
            have e3 : m * k ≤ u1 + 1 - u2 := by
              have e4 : u1 - u2 = m * (k - 1) + (p1 - p2) := by rw [← e2]; exact h4
              rw [Int.mul_sub, Int.mul_one] at e4
              omega
            simp [hp, hq, e3]
          · have e3 : ¬ m * k ≤ u1 + 1 - u2 := by
              have := lead_step (p := 0) hm hk (by omega) (show q1 + 1 - q2 < k by omega)
              omega
            simp only [hp, hq, e3, decide_true, decide_false, if_true, if_false, Bool.false_eq_true]
            refine ⟨trivial, by omega, by omega, by omega, ?_⟩
            rw [e1]
            simp
            omega
        · have e3 : ¬ m * k ≤ u1 + 1 - u2 := by
            have := lead_step hm hk (show p1 + 1 - p2 < m by omega) (show q1 - q2 < k by omega)
            omega
          simp only [hp, e3, decide_false, if_false, Bool.false_eq_true]
          exact ⟨trivial, by omega, h2, by omega, by omega⟩
      | false =>
        simp only [unitS, wonS, mineS, othS, Bool.false_eq_true, if_false]
        have c1 : (decide (m ≤ p2 + 1) && decide (m ≤ p2 + 1 - p1)) = decide (m ≤ p2 + 1 - p1) := by
          by_cases h : m ≤ p2 + 1 - p1
          · simp [h]; omega
          · simp [h]
        have c2 : (decide (k ≤ q2 + 1) && decide (k ≤ q2 + 1 - q1)) = decide (k ≤ q2 + 1 - q1) := by
          by_cases h : k ≤ q2 + 1 - q1
          · simp [h]; omega
          · simp [h]
        have c3 : (decide (m * k ≤ u2 + 1) && decide (m * k ≤ u2 + 1 - u1)) = decide (m * k ≤ u2 + 1 - u1) := by
          by_cases h : m * k ≤ u2 + 1 - u1
          · simp [h]; omega
          · simp [h]
        rw [c1, c2, c3]
        have h4' : u2 - u1 = m * (q2 - q1) + (p2 - p1) := by
          have : m * (q2 - q1) = -(m * (q1 - q2)) := by rw [← Int.mul_neg]; congr 1; omega
          omega
        have e1 : m * (q2 + 1 - q1) = m * (q2 - q1) + m := by
          rw [show q2 + 1 - q1 = (q2 - q1) + 1 by omega, Int.mul_add, Int.mul_one]
        by_cases hp : m ≤ p2 + 1 - p1
        · by_cases hq : k ≤ q2 + 1 - q1
          · have e2 : q2 - q1 = k - 1 := by omega
            have e3 : m * k ≤ u2 + 1 - u1 := by
              have e4 : u2 - u1 = m * (k - 1) + (p2 - p1) := by rw [← e2]; exact h4'
              rw [Int.mul_sub, Int.mul_one] at e4
              omega
            simp [hp, hq, e3]
          · have e3 : ¬ m * k ≤ u2 + 1 - u1 := by
              have := lead_step (p := 0) hm hk (by omega) (show q2 + 1 - q1 < k by omega)
              omega
            simp only [hp, hq, e3, decide_true, decide_false, if_true, if_false, Bool.false_eq_true]
            refine ⟨trivial, by omega, by omega, by omega, ?_⟩
            have e5 : m * (q1 - (q2 + 1)) = -(m * (q2 - q1) + m) := by
              rw [← e1, ← Int.mul_neg]; congr 1; omega
            rw [e5]
            simp
            omega
        · have e3 : ¬ m * k ≤ u2 + 1 - u1 := by
            have := lead_step hm hk (show p2 + 1 - p1 < m by omega) (show q2 - q1 < k by omega)
            omega
          simp only [hp, e3, decide_false, if_false, Bool.false_eq_true]
          exact ⟨trivial, by omega, h2, by omega, by omega⟩
end Z

set_option Elab.async false
set_option linter.all false
set_option maxRecDepth 100000
set_option maxHeartbeats 4000000
set_option exponentiation.threshold 20000
/-! M3: data of rules and scores. No program here. -/
namespace Z
def rc (p : Int × Int) : D := .tup false [.int p.1, .int p.2]
def rl (l : List (Int × Int)) : D := .lst false (l.map rc)
theorem rc_frz (p : Int × Int) : canF (rc p) = true ∧ frz (rc p) = rc p ∧ fzn (rc p) = true := by simp [rc, canF, canFL, frz, frzL, fzn, fznL]
theorem rcs_frz : ∀ l : List (Int × Int), canFL (l.map rc) = true ∧ frzL (l.map rc) = l.map rc ∧ fznL (l.map rc) = true
  | [] => by simp [canFL, frzL, fznL]
  | p :: l => by
    obtain ⟨a, b, c⟩ := rcs_frz l
    obtain ⟨x, y, z⟩ := rc_frz p
    simp [canFL, frzL, fznL, a, b, c, x, y, z]
theorem frz_rcs (m : Bool) (l : List (Int × Int)) : frz? (.lst m (l.map rc)) = some (rl l) := by
  obtain ⟨a, b, c⟩ := rcs_frz l
  simp [frz?, canF, frz, a, b, rl]
theorem frz_rl (l : List (Int × Int)) : frz? (rl l) = some (rl l) := frz_rcs false l
theorem fzn_rl (l : List (Int × Int)) : fzn (rl l) = true := by simp [rl, fzn, (rcs_frz l).2.2]
def okR (p : Int × Int) : Prop := 1 ≤ p.2 ∧ p.2 ≤ p.1
def prodU : List (Int × Int) → Int
  | [] => 1
  | p :: l => p.1 * prodU l
theorem prodU_app : ∀ a b : List (Int × Int), prodU (a ++ b) = prodU a * prodU b
  | [], b => by simp [prodU]
  | p :: a, b => by simp [prodU, prodU_app a b, Int.mul_assoc]
theorem prodU_pos : ∀ {l : List (Int × Int)}, (∀ p ∈ l, okR p) → 1 ≤ prodU l
  | [], _ => by simp [prodU]
  | p :: l, h => by
    have h1 : okR p := h p (by simp)
    have h2 := prodU_pos (l := l) fun q hq => h q (by simp [hq])
    have h3 : 1 ≤ p.1 := Int.le_trans h1.1 h1.2
    show 1 ≤ p.1 * prodU l
    calc (1 : Int) = 1 * 1 := rfl
      _ ≤ p.1 * prodU l := Int.mul_le_mul h3 h2 (by decide) (by omega)
theorem prodU_mem : ∀ {l : List (Int × Int)}, (∀ p ∈ l, okR p) → ∀ p ∈ l, p.1 ≤ prodU l
  | [], _, p, hp => by cases hp
  | q :: l, h, p, hp => by
    have h1 : okR q := h q (by simp)
    have h2 := prodU_pos (l := l) fun q hq => h q (by simp [hq])
    have h3 : 1 ≤ q.1 := Int.le_trans h1.1 h1.2
    show p.1 ≤ q.1 * prodU l
    rcases List.mem_cons.mp hp with rfl | hp
    · calc p.1 = p.1 * 1 := by omega
        _ ≤ p.1 * prodU l := Int.mul_le_mul_of_nonneg_left h2 (by omega)
    · have h4 := prodU_mem (l := l) (fun q hq => h q (by simp [hq])) p hp
      have h5 : 1 * prodU l ≤ q.1 * prodU l := Int.mul_le_mul_of_nonneg_right h3 (by omega)
      omega
theorem bits_le {i : Int} (h1 : 1 ≤ i) (h2 : i ≤ 2 ^ 1000) : bits i ≤ 1000 := by
  unfold bits
  have h3 : i.natAbs ≤ 2 ^ 1000 := by omega
  have h4 : i.natAbs < 2 ^ 1001 := Nat.lt_of_le_of_lt h3 (Nat.pow_lt_pow_right (by decide) (by decide))
  have := (Nat.log2_lt (by omega)).mpr h4
  omega
theorem flat_rcs (m : Bool) (l : List (Int × Int)) : flatD (.lst m (l.map rc)) 50 = true := by
  have : ∀ l : List (Int × Int), flatDL (l.map rc) 49 = true := fun l => by
    induction l with
    | nil => rfl
    | cons p l ih => simp [flatDL, ih, rc, flatD]
  simp [flatD, this]
theorem flat_nil (m : Bool) : flatD (.lst m []) 50 = true := rfl
theorem eqB_nil (m k : Bool) (l : List (Int × Int)) : eqB (.lst m (l.map rc)) (.lst k []) = l.isEmpty := by
  cases l <;> simp [eqB, eqBL]
theorem cmp_ne_nil (m k : Bool) (l : List (Int × Int)) : cmpop .ne (.lst m (l.map rc)) (.lst k []) = some (!l.isEmpty) := by
  simp [cmpop, flat_rcs, flat_nil, eqB_nil, scalD]
theorem frz_pair (m : Bool) (a b : Int) : frz? (.tup m [.int a, .int b]) = some (rc (a, b)) := by simp [frz?, canF, canFL, frz, frzL, rc]
theorem rc_ix (q : Int × Int) : ixD (rc q) (.int 0) = some (.int q.1) ∧ ixD (rc q) (.int 1) = some (.int q.2) := by simp [rc, ixD, ixP]
theorem split_last (f : List (Int × Int)) : f = [] ∨ ∃ g q, f = g ++ [q] := by
  rcases List.eq_nil_or_concat f with h | ⟨g, q, h⟩
  · exact .inl h
  · exact .inr ⟨g, q, by rw [h, List.concat_eq_append]⟩
theorem ints_frz : ∀ l : List Int, canFL (l.map D.int) = true ∧ frzL (l.map D.int) = l.map D.int ∧ fznL (l.map D.int) = true
  | [] => by simp [canFL, frzL, fznL]
  | p :: l => by
    obtain ⟨a, b, c⟩ := ints_frz l
    simp [canFL, frzL, fznL, a, b, c, canF, frz, fzn]
theorem ix_at (A : List (Int × Int)) (q : Int × Int) (Q : List (Int × Int)) : ixD (rl (A ++ q :: Q)) (.int (A.length : Nat)) = some (rc q) := by
  simp only [rl, ixD, ixP]
  rw [if_pos (by omega), if_pos (by simp; omega)]
  simp
theorem ix_at1 (A : List (Int × Int)) (q p : Int × Int) (Q : List (Int × Int)) : ixD (rl (A ++ q :: p :: Q)) (.int ((A.length : Nat) + 1)) = some (rc p) := by
  have := ix_at (A ++ [q]) p Q
  simpa using this
theorem sl_lo (A B : List (Int × Int)) : slD (rl (A ++ B)) none (some (A.length : Nat)) = some (.lst true (A.map rc)) := by
  unfold rl slD
  simp only [(rcs_frz (A ++ B)).2.2, if_true, cut, slP, List.length_map, List.length_append]
  have e1 : min (A.length : Int).toNat (A.length + B.length) = A.length := by omega
  rw [if_neg (by omega), e1]
  simp
theorem add_rcs (m k : Bool) (a b : List (Int × Int)) (h : a.length + b.length ≤ 1000) : binop .add (.lst m (a.map rc)) (.lst k (b.map rc)) = some (.lst true ((a ++ b).map rc)) := by
  have hs : sizeL = 16777216 := rfl
  have hd : decide (a.length + b.length ≤ sizeL) = true := decide_eq_true (by omega)
  simp only [binop, (rcs_frz a).2.2, (rcs_frz b).2.2, List.length_map, Bool.true_and, hd, if_true, List.map_append]
theorem bits_ok {l : List (Int × Int)} (h : ∀ p ∈ l, okR p) (hb : prodU l ≤ 2 ^ 1000) : ∀ p ∈ l, bits p.1 ≤ 1000 ∧ bits p.2 ≤ 1000 := fun p hp => by
  have h1 := h p hp
  have h2 := prodU_mem h p hp
  exact ⟨bits_le (Int.le_trans h1.1 h1.2) (Int.le_trans h2 hb), bits_le h1.1 (Int.le_trans h1.2 (Int.le_trans h2 hb))⟩
theorem sh_ok : ∀ l : List (Int × Int), (∀ p ∈ l, bits p.1 ≤ 1000 ∧ bits p.2 ≤ 1000) → shOkL (l.map rc) = true ∧ repSzL (l.map rc) ≤ 3000 * l.length
  | [], _ => by simp [shOkL, repSzL]
  | p :: l, h => by
    obtain ⟨a, b⟩ := sh_ok l fun q hq => h q (by simp [hq])
    have hp := h p (by simp)
    have e1 : decide (bits p.1 < 1900) = true := decide_eq_true (by omega)
    have e2 : decide (bits p.2 < 1900) = true := decide_eq_true (by omega)
    refine ⟨by simp only [List.map_cons, shOkL, rc, shOk, e1, e2, a, Bool.and_self], ?_⟩
    simp only [List.map_cons, repSzL, rc, repSz, List.length_cons]
    omega
theorem flatL_rcs (n : Nat) : ∀ l : List (Int × Int), flatDL (l.map rc) (n + 1) = true
  | [] => rfl
  | p :: l => by simp [flatDL, flatL_rcs n l, rc, flatD]
theorem rep_one (m : Bool) {l : List (Int × Int)} (h : ∀ p ∈ l, okR p) (hb : prodU l ≤ 2 ^ 1000) (hn : l.length ≤ 100) : biop .repr [.lst m (l.map rc)] = some (.str (showD (.lst m (l.map rc)))) := by
  obtain ⟨a, b⟩ := sh_ok l (bits_ok h hb)
  simp only [biop]
  rw [if_pos]
  simp only [shOk, a, flat_rcs, Bool.and_self, Bool.true_and, decide_eq_true_eq]
  show repSzL (l.map rc) + 4 ≤ 10000000
  omega
theorem eqBL_rcs : ∀ l : List (Int × Int), eqBL (l.map rc) (l.map rc) = true
  | [] => rfl
  | p :: l => by simp [eqBL, eqB, rc, eqBL_rcs l]
theorem cmp_same (m k : Bool) (l : List (Int × Int)) : cmpop .ne (.lst m (l.map rc)) (.lst k (l.map rc)) = some false ∧ cmpop .eq (.lst m (l.map rc)) (.lst k (l.map rc)) = some true := by
  simp [cmpop, flat_rcs, scalD, eqB, eqBL_rcs]
theorem cmp_str (s : List Nat) : cmpop .ne (.str s) (.str s) = some false := by simp [cmpop, scalD, eqB]
def sd (a : Bool) : List Nat := [if a = true then 65 else 66]
def sidD (a : Bool) : D := .str (sd a)
theorem sd_A (a : Bool) : cmpop .eq (.str (sd a)) (.str [65]) = some a := by cases a <;> rfl
theorem ix_mid (m : Bool) (pre : List (Int × Int)) (s : Int × Int) (sc : List (Int × Int)) : ixD (.lst m ((pre ++ s :: sc).map rc)) (.int (pre.length : Nat)) = some (rc s) := by
  have h : ixP ((pre ++ s :: sc).map rc).length (pre.length : Nat) = some pre.length := by
    unfold ixP
    rw [if_pos (by omega), if_pos (by simp; omega), Int.toNat_natCast]
  simp only [ixD, h, Option.bind_some]
  simp
theorem ixP_mid (pre : List (Int × Int)) (s : Int × Int) (sc : List (Int × Int)) : ixP ((pre ++ s :: sc).map rc).length (pre.length : Nat) = some pre.length := by
  unfold ixP
  rw [if_pos (by omega), if_pos (by simp; omega), Int.toNat_natCast]
theorem set_mid (pre : List (Int × Int)) (s t : Int × Int) (sc : List (Int × Int)) : ((pre ++ s :: sc).map rc).set pre.length (rc t) = (pre ++ t :: sc).map rc := by
  have e : ((pre ++ s :: sc).map rc) = pre.map rc ++ rc s :: sc.map rc := by simp
  have : (pre.map rc).length = pre.length := by simp
  rw [e, List.set_append_right _ _ (by simp), ← this]
  simp
theorem fzn_rc (p : Int × Int) : fzn (rc p) = true := rfl
theorem tgt_rc (t u : LT) (p : Int × Int) (e : Env) : tgt (.cons t u) (rc p) e = tgts (.cons t u) [.int p.1, .int p.2] e := rfl
theorem rev_rc (p : Int × Int) : revD (rc p) = some (.tup true [.int p.2, .int p.1]) := rfl
theorem len_rl (l : List (Int × Int)) : biop .len [rl l] = some (.int (l.length : Nat)) := by simp [rl, biop]
theorem len_lst (m : Bool) (l : List D) : biop .len [.lst m l] = some (.int (l.length : Nat)) := rfl
theorem tup_rc (a b : Int) : (D.tup false [.int a, .int b]) = rc (a, b) := rfl
theorem two_sz : (2 : Nat) ≤ sizeL := by decide
theorem enu_rl (l : List (Int × Int)) : enuOf (rl l) = some (l.map rc) := by unfold enuOf; rw [frz_rl]; rfl
theorem toList_rl (l : List (Int × Int)) : biop .toList [rl l] = some (.lst true (l.map rc)) := by simp only [rl, biop, (rcs_frz l).2.2, if_true]
def lnS (l : List Bool) : List Nat := l.map fun a => if a = true then 65 else 66
theorem enu_ln (l : List Bool) : enuOf (.str (lnS l)) = some (l.map sidD) := by
  have : frz? (.str (lnS l)) = some (.str (lnS l)) := rfl
  unfold enuOf
  rw [this]
  simp only [lnS, List.map_map]
  congr 1
theorem fzn_lst {m : Bool} {xs : List D} : fzn (.lst m xs) = (!m && fznL xs) := rfl
theorem fzn_str {s : List Nat} : fzn (.str s) = true := rfl
theorem sz_of {l : List D} (h : l.length ≤ 16777216) : (l.length ≤ sizeL) = True := eq_true h
theorem zeros_map (g : List (Int × Int)) : (g.map fun _ => rc (0, 0)) = (zerosS g).map rc := by simp [zerosS]
theorem items_rl (l : List (Int × Int)) : itemsOf (rl l) = some (l.map rc) := by unfold itemsOf; rw [frz_rl]; rfl
theorem ins_rc {l : List (Int × Int)} {s : Nat} {p : Int × Int} (h : l.length ≤ 1000) (hs : s ≤ 1000) : mmop .insert (l.map rc) [.int (s : Nat), rc p] = some ((l.take s ++ [p] ++ l.drop s).map rc, .non) := by
  have s1 : sizeL = 16777216 := rfl
  simp only [mmop, List.length_map]
  rw [if_pos (by omega), Int.toNat_natCast, List.map_append, List.map_append, List.map_take, List.map_drop, List.map_cons, List.map_nil]
theorem cut_map (l : List (Int × Int)) (lo hi : Option Int) : cut (l.map rc) lo hi = (cut l lo hi).map rc := by
  simp only [cut, List.length_map, List.map_take, List.map_drop]
theorem sl_rl (l : List (Int × Int)) (lo hi : Option Int) : slD (rl l) lo hi = some (.lst true ((cut l lo hi).map rc)) := by
  unfold rl slD
  simp only [(rcs_frz l).2.2, if_true, cut_map]
theorem cut_len {α : Type} (l : List α) (lo hi : Option Int) : (cut l lo hi).length ≤ slP l.length l.length hi - slP l.length 0 lo := by
  simp only [cut, List.length_take]; omega
theorem cut_mem {α : Type} {l : List α} {lo hi : Option Int} {x : α} (h : x ∈ cut l lo hi) : x ∈ l := List.mem_of_mem_drop (List.mem_of_mem_take h)
theorem rev_rcs (m : Bool) (l : List (Int × Int)) : revD (.lst m (l.map rc)) = some (.lst true (l.reverse.map rc)) := by
  simp only [revD, (rcs_frz l).2.2, if_true, List.map_reverse]
theorem split_at {g : List (Int × Int)} {s : Nat} (h : s < g.length) : ∃ A p B, g = A ++ p :: B ∧ A.length = s :=
  ⟨g.take s, g[s], g.drop (s + 1), by simp, by simp; omega⟩
theorem frz_int {i : Int} : frz? (.int i) = some (.int i) := rfl
theorem ev_callk {phi : Nat → List PM → List D → FRes} {e : Env} {f : Nat} {es ks : LL} {ps : List Nat} : evE phi (.callk f es ps ks) e = (evL phi es e).andThen fun xs e => (evL phi ks e).andThen fun ys e =>
    if (fznL xs && fznL ys && ps.all (fun j => decide (j < (xs ++ ys).length)) && decide (xs.length = lenL es) && decide (ys.length = lenL ks)) = true then resF (phi f (ps.map fun _ => .val) (pick .non ps (xs ++ ys))) e else .bad := by
  rw [evE]
  cases evL phi es e with
  | bad => rfl
  | xc _ _ _ => rfl
  | ok xs e =>
    simp only [Res.andThen]
    cases evL phi ks e with
    | bad => rfl
    | xc _ _ _ => rfl
    | ok ys e =>
      simp only []
      split
      · cases phi f (ps.map fun _ => .val) (pick .non ps (xs ++ ys)) <;> rfl
      · rfl
theorem callk_10 {phi : Nat → List PM → List D → FRes} {e : Env} {f : Nat} {a b : LE} {x y : D} (h1 : evE phi a e = .ok x e) (h2 : evE phi b e = .ok y e) (f1 : fzn x = true) (f2 : fzn y = true) : evE phi (.callk f .nil [1, 0] (.cons a (.cons b .nil))) e = resF (phi f [.val, .val] [y, x]) e := by
  rw [ev_callk]
  simp only [evl_nil, evl_cons, h1, h2, ok_then]
  rw [if_pos]
  · rfl
  · simp only [fznL, f1, f2]; rfl
theorem eqB_rc (p q : Int × Int) : eqB (rc p) (rc q) = decide (p = q) := by
  obtain ⟨a, b⟩ := p
  obtain ⟨c, d⟩ := q
  simp only [rc, eqB, eqBL, Bool.and_true]
  by_cases h1 : a = c <;> by_cases h2 : b = d <;> simp [h1, h2]
theorem eqBL_dec : ∀ a b : List (Int × Int), eqBL (a.map rc) (b.map rc) = decide (a = b)
  | [], [] => rfl
  | [], q :: b => rfl
  | p :: a, [] => rfl
  | p :: a, q :: b => by
    simp only [List.map_cons, eqBL, eqB_rc, eqBL_dec a b]
    by_cases h1 : p = q <;> by_cases h2 : a = b <;> simp [h1, h2]
theorem cmp_rcs (m k : Bool) (a b : List (Int × Int)) : cmpop .eq (.lst m (a.map rc)) (.lst k (b.map rc)) = some (decide (a = b)) := by
  have h1 := flat_rcs m a
  have h2 := flat_rcs k b
  simp [cmpop, h1, h2, eqB, eqBL_dec]
theorem cmp_rl (a b : List (Int × Int)) : cmpop .eq (rl a) (rl b) = some (decide (a = b)) := cmp_rcs false false a b
theorem rep_pair (a b : List (Int × Int)) (ha : ∀ p ∈ a, okR p) (hb : ∀ p ∈ b, okR p) (hpa : prodU a ≤ 2 ^ 1000) (hpb : prodU b ≤ 2 ^ 1000) (hna : a.length ≤ 100) (hnb : b.length ≤ 100) : biop .repr [.lst true [rl a, rl b]] = some (.str (showD (.lst true [rl a, rl b]))) := by
  obtain ⟨a1, a2⟩ := sh_ok a (bits_ok ha hpa)
  obtain ⟨b1, b2⟩ := sh_ok b (bits_ok hb hpb)
  simp only [biop]
  rw [if_pos]
  have f : flatDL (a.map rc) 48 = true := flatL_rcs 47 a
  have g : flatDL (b.map rc) 48 = true := flatL_rcs 47 b
  simp only [rl, shOk, shOkL, a1, b1, flatD, flatDL, f, g, Bool.and_self, Bool.true_and, Bool.and_true, Nat.lt_add_one, Nat.add_one_sub_one, Nat.reduceSub, Nat.reduceLT, decide_true]
  apply decide_eq_true
  show ((repSzL (a.map rc) + 4) + 2 + ((repSzL (b.map rc) + 4) + 2 + 0)) + 4 ≤ 10000000
  omega
theorem rep_bls (m b : Bool) : biop .repr [.lst m [.bl b, .bl b, .bl b]] = some (.str (showD (.lst true [.bl b, .bl b, .bl b]))) := by
  cases m <;> cases b <;> rfl
theorem strs_sid : ∀ l : List Bool, strsOf (l.map sidD) = some (l.map fun a => [if a = true then 65 else 66])
  | [] => rfl
  | a :: l => by simp only [List.map_cons, strsOf, sidD, strs_sid l]; rfl
theorem join_sid : ∀ l : List Bool, joinS [] (l.map fun a => [if a = true then 65 else 66]) = lnS l
  | [] => rfl
  | [a] => rfl
  | a :: b :: l => by
    have := join_sid (b :: l)
    simp only [List.map_cons] at this
    simp only [List.map_cons, joinS, this]
    rfl
theorem sum_sid : ∀ l : List Bool, ((l.map fun a => [if a = true then 65 else 66]).map (·.length)).sum = l.length
  | [] => rfl
  | a :: l => by
    have := sum_sid l
    simp only [List.map_cons, List.sum_cons, this, List.length_cons, List.length_nil]; omega
theorem bm_join (l : List Bool) (h : l.length ≤ 1000) : bmop .join (.str []) [.lst true (l.map sidD)] = some (.str (lnS l)) := by
  simp only [bmop, strs_sid, Option.bind_some, sum_sid, join_sid]
  rw [if_pos (by simp; omega)]
theorem bits_sm {i : Int} (h1 : 0 ≤ i) (h2 : i < 1000000) : bits i ≤ 20 := by
  have e : (2 : Int) ^ 20 = 1048576 := by decide
  exact bits_lt (k := 20) (by rw [e]; omega) (by rw [e]; omega) (by decide)
/-- the winner of a race at a score -/
def won2 (r s : Int × Int) : Option Bool := if max s.1 s.2 < r.1 ∨ max (s.1 - s.2) (s.2 - s.1) < r.2 then none else some (decide (s.2 < s.1))
/-- one point, won2 telling -/
def nextW : List (Int × Int) → List (Int × Int) → Bool → Bool × List (Int × Int)
  | r :: g, s :: sc, a => if (won2 r (unitS a s)).isSome = true then (if g = [] then (true, [unitS a s]) else ((nextW g sc a).1, (0, 0) :: (nextW g sc a).2)) else (false, unitS a s :: sc)
  | _, _, _ => (true, [])
def runW2 (g : List (Int × Int)) : List (Int × Int) → List Bool → Nat → Option Bool × List (Int × Int) × Nat
  | sc, [], k => (none, sc, k)
  | sc, a :: l, k => if (nextW g sc a).1 = true then (some a, (nextW g sc a).2, k + 1) else runW2 g (nextW g sc a).2 l (k + 1)
theorem nextW_len : ∀ {g sc : List (Int × Int)} {a : Bool}, g.length = sc.length → (nextW g sc a).2.length = sc.length
  | [], [], _, _ => rfl
  | [], _ :: _, _, h => by simp at h
  | _ :: _, [], _, h => by simp at h
  | r :: g, s :: sc, a, h => by
    simp only [nextW]
    have h' : g.length = sc.length := by simpa using h
    split
    · split
      · rename_i hg
        subst hg
        have : sc = [] := List.length_eq_zero_iff.mp h'.symm
        subst this; rfl
      · simp [nextW_len h']
    · simp
theorem runW2_len {g : List (Int × Int)} : ∀ (l : List Bool) (sc : List (Int × Int)) (k : Nat), g.length = sc.length → (runW2 g sc l k).2.1.length = g.length
  | [], sc, k, h => h.symm
  | a :: l, sc, k, h => by
    simp only [runW2]
    split
    · rw [nextW_len h, h]
    · exact runW2_len l _ _ (by rw [nextW_len h, h])
theorem runW2_no {g sc : List (Int × Int)} {b : Bool} {l : List Bool} {k : Nat} (h : (nextW g sc b).1 = false) : runW2 g sc (b :: l) k = runW2 g (nextW g sc b).2 l (k + 1) := by simp [runW2, h]
theorem runW2_yes {g sc : List (Int × Int)} {b : Bool} {l : List Bool} {k : Nat} (h : (nextW g sc b).1 = true) : runW2 g sc (b :: l) k = (some b, (nextW g sc b).2, k + 1) := by simp [runW2, h]
theorem runW2_open {g sc : List (Int × Int)} {b : Bool} {l : List Bool} {k : Nat} (h : (runW2 g sc (b :: l) k).1 = none) : (nextW g sc b).1 = false := by
  cases hb : (nextW g sc b).1 with
  | false => rfl
  | true => rw [runW2_yes hb] at h; cases h
/-- an open string, one more point -/
theorem snoc_no {g : List (Int × Int)} (a : Bool) : ∀ (l : List Bool) (sc : List (Int × Int)) (k : Nat), (runW2 g sc l k).1 = none → (nextW g (runW2 g sc l k).2.1 a).1 = false → runW2 g sc (l ++ [a]) k = (none, (nextW g (runW2 g sc l k).2.1 a).2, k + l.length + 1)
  | [], sc, k, h, h2 => (runW2_no (sc := sc) (b := a) (l := []) (k := k) h2).trans rfl
  | b :: l, sc, k, h, h2 => by
    have hb := runW2_open h
    rw [runW2_no hb] at h h2
    rw [List.cons_append, runW2_no hb, runW2_no hb, snoc_no a l _ _ h h2, List.length_cons]
    have e : k + 1 + l.length + 1 = k + (l.length + 1) + 1 := by omega
    rw [e]
theorem snoc_yes {g : List (Int × Int)} (a : Bool) : ∀ (l : List Bool) (sc : List (Int × Int)) (k : Nat), (runW2 g sc l k).1 = none → (nextW g (runW2 g sc l k).2.1 a).1 = true → runW2 g sc (l ++ [a]) k = (some a, (nextW g (runW2 g sc l k).2.1 a).2, k + l.length + 1)
  | [], sc, k, h, h2 => (runW2_yes (sc := sc) (b := a) (l := []) (k := k) h2).trans rfl
  | b :: l, sc, k, h, h2 => by
    have hb := runW2_open h
    rw [runW2_no hb] at h h2
    rw [List.cons_append, runW2_no hb, runW2_no hb, snoc_yes a l _ _ h h2, List.length_cons]
    have e : k + 1 + l.length + 1 = k + (l.length + 1) + 1 := by omega
    rw [e]
theorem runW2_used {g : List (Int × Int)} : ∀ (l : List Bool) (sc : List (Int × Int)) (k : Nat), (runW2 g sc l k).1 = none → (runW2 g sc l k).2.2 = k + l.length
  | [], sc, k, h => rfl
  | b :: l, sc, k, h => by
    have hb := runW2_open h
    rw [runW2_no hb] at h ⊢
    rw [runW2_used l _ _ h, List.length_cons]; omega
end Z

set_option maxRecDepth 100000
set_option maxHeartbeats 0
namespace K01
open PySem PySem.Spec PyProof.Rows L2 Z
def top (i : Nat) : Stmt := PySem.Challenge.pw_winbytwo_k01_errors_and_their_values.main.body.getD i (.Pass ⟨0, 0, 0, 0⟩)
def FT : List (Str × Nat × List Str) := ("_law_bag", 0, ["script"]) :: ("_law_draw", 1, ["bag", "many"]) :: ("_law_made", 2, ["which", "held"]) :: ("_law_flags", 3, ["one"]) :: ("law", 4, ["script"]) :: []
def GL : List (Str × D) := []
def BL : List Str := ["ValueError", "abs", "isinstance", "len", "min", "range", "repr"]
def KT : List (Str × List Str × Nat × List Nat × Nat) := []
def EC : List Nat := [0, 1, 2, 3, 4, 5, 6, 7, 8]
def HT : List (Str × Nat × List Str) := []
/-- _law_bag -/
def b0_1 : LB := (.cons (.asg (.nm 1) (.bin .mod (.bin .add (.bin .mul (.v 1) (.c (.int 1000003))) (.v 3)) (.c (.int 2305843009213693951)))) (.cons (.iff (.cmp .ge (.bi .abs (.cons (.v 3) .nil)) (.bin .pow (.c (.int 10)) (.c (.int 18)))) (.cons (.ex (.app (.s 2) (.bi .abs (.cons (.v 3) .nil)))) .nil) .nil) .nil))
def b0 : LB := (.cons (.asg (.cons (.nm 1) (.cons (.nm 2) .nil)) (.tup (.cons (.c (.int 11)) (.cons (.lst .nil) .nil)))) (.cons (.forr (.nm 3) (.val (.v 0)) b0_1) (.cons (.ret (.dsp [[103, 114, 101, 97, 116], [108, 101, 102, 116], [116, 117, 114, 110], [98, 108, 101, 110, 100]] (.cons (.mv 2) (.cons (.c (.int 0)) (.cons (.c (.int 0)) (.cons (.v 1) .nil)))))) .nil)))
def f0 : Fn := ⟨[.val], 4, b0⟩
def t0 : Tb := ⟨["script", "blend", "great", "cell"], defScope (top 11), FT, GL, BL, KT, true, EC, false, HT⟩
def z0 : DZ := ⟨"_law_bag", top 11, ["script"], t0, 0, f0⟩
/-- _law_draw -/
def b1 : LB := (.cons (.iff (.an (.cmp .lt (.ix (.bw 0) (.c (.str [108, 101, 102, 116]))) (.v 1)) (.cmp .gt (.bi .len (.cons (.ix (.bw 0) (.c (.str [103, 114, 101, 97, 116]))) .nil)) (.c (.int 0)))) (.cons (.stk (.s 0) (.c (.str [108, 101, 102, 116])) (.popi (.ix (.s 0) (.c (.str [103, 114, 101, 97, 116]))) (.c (.int 0)))) .nil) .nil) (.cons (.iff (.cmp .ge (.ix (.bw 0) (.c (.str [108, 101, 102, 116]))) (.v 1)) (.cons (.asg (.nm 2) (.bin .mod (.ix (.bw 0) (.c (.str [108, 101, 102, 116]))) (.v 1))) (.cons (.stk (.s 0) (.c (.str [108, 101, 102, 116])) (.bin .fdiv (.ix (.bw 0) (.c (.str [108, 101, 102, 116]))) (.v 1))) (.cons (.ret (.v 2)) .nil))) .nil) (.cons (.skA (.s 0) (.c (.str [116, 117, 114, 110])) .add (.c (.int 1))) (.cons (.asg (.nm 3) (.rd (.ix (.bw 0) (.c (.str [116, 117, 114, 110]))))) (.cons (.asg (.nm 4) (.bin .add (.bin .mul (.bin .add (.ix (.bw 0) (.c (.str [98, 108, 101, 110, 100]))) (.bin .mul (.c (.int 17)) (.v 3))) (.bin .pow (.bin .add (.v 3) (.c (.int 29))) (.c (.int 2)))) (.bin .mul (.c (.int 7919)) (.v 3)))) (.cons (.ret (.bin .mod (.bin .fdiv (.bin .mod (.bin .pow (.bin .mod (.v 4) (.c (.int 2305843009213693951))) (.c (.int 3))) (.bin .add (.bin .pow (.c (.int 10)) (.c (.int 18))) (.c (.int 9)))) (.c (.int 64))) (.v 1))) .nil))))))
def f1 : Fn := ⟨[.io, .val], 5, b1⟩
def t1 : Tb := ⟨["bag", "many", "drawn", "turn", "mixed"], defScope (top 12), FT, GL, BL, KT, true, EC, false, HT⟩
def z1 : DZ := ⟨"_law_draw", top 12, ["bag", "many"], t1, 1, f1⟩
/-- _law_made -/
def b2 : LB := (.cons (.iff (.cmp .eq (.v 0) (.c (.int 0))) (.cons (.ret (.lst (.cons (.mkx 1 false (.v 1)) (.cons (.mkx 1 true (.v 1)) .nil)))) .nil) .nil) (.cons (.iff (.cmp .eq (.v 0) (.c (.int 1))) (.cons (.ret (.lst (.cons (.mkx 2 false (.v 1)) (.cons (.mkx 2 true (.v 1)) .nil)))) .nil) .nil) (.cons (.iff (.cmp .eq (.v 0) (.c (.int 2))) (.cons (.ret (.lst (.cons (.mkx 3 false (.v 1)) (.cons (.mkx 3 true (.v 1)) .nil)))) .nil) .nil) (.cons (.iff (.cmp .eq (.v 0) (.c (.int 3))) (.cons (.ret (.lst (.cons (.mkx 4 false (.v 1)) (.cons (.mkx 4 true (.v 1)) .nil)))) .nil) .nil) (.cons (.iff (.cmp .eq (.v 0) (.c (.int 4))) (.cons (.ret (.lst (.cons (.mkx 5 false (.v 1)) (.cons (.mkx 5 true (.v 1)) .nil)))) .nil) .nil) (.cons (.iff (.cmp .eq (.v 0) (.c (.int 5))) (.cons (.ret (.lst (.cons (.mkx 6 false (.v 1)) (.cons (.mkx 6 true (.v 1)) .nil)))) .nil) .nil) (.cons (.iff (.cmp .eq (.v 0) (.c (.int 6))) (.cons (.ret (.lst (.cons (.mkx 7 false (.v 1)) (.cons (.mkx 7 true (.v 1)) .nil)))) .nil) .nil) (.cons (.ret (.lst (.cons (.mkx 8 false (.v 1)) (.cons (.mkx 8 true (.v 1)) .nil)))) .nil))))))))
def f2 : Fn := ⟨[.val, .val], 2, b2⟩
def t2 : Tb := ⟨["which", "held"], defScope (top 13), FT, GL, BL, KT, true, EC, false, HT⟩
def z2 : DZ := ⟨"_law_made", top 13, ["which", "held"], t2, 2, f2⟩
/-- _law_flags -/
def b3 : LB := (.cons (.asg (.nm 1) (.lst (.cons (.isx (.v 0) 1) (.cons (.isx (.v 0) 2) (.cons (.isx (.v 0) 3) .nil))))) (.cons (.ex (.mm .extend (.s 1) (.cons (.lst (.cons (.isx (.v 0) 4) (.cons (.isx (.v 0) 5) (.cons (.isx (.v 0) 6) .nil)))) .nil))) (.cons (.ex (.mm .extend (.s 1) (.cons (.lst (.cons (.isx (.v 0) 7) (.cons (.isx (.v 0) 8) .nil))) .nil))) (.cons (.ret (.mv 1)) .nil))))
def f3 : Fn := ⟨[.val], 2, b3⟩
def t3 : Tb := ⟨["one", "found"], defScope (top 14), FT, GL, BL, KT, true, EC, false, HT⟩
def z3 : DZ := ⟨"_law_flags", top 14, ["one"], t3, 3, f3⟩
/-- law -/
def b4_3 : LB := (.cons (.iff (.orr (.cmp .ne (.call 3 (.e (.v 6) .nil)) (.lc [7] (.rng1 (.c (.int 8))) (.nm 7) .no (.cmp .eq (.v 7) (.v 4)))) (.cmp .ne (.bi .repr (.cons (.xv (.v 6)) .nil)) (.bi .repr (.cons (.v 5) .nil)))) (.cons (.ret (.c (.bl false))) .nil) .nil) (.cons (.iff (.orr (.nt (.isx (.v 6) 0)) (.nt (.isx (.v 6) 100))) (.cons (.ret (.c (.bl false))) .nil) .nil) .nil))
def b4_2 : LB := (.cons (.asg (.nm 5) (.ix (.v 3) (.call 1 (.io 1 (.e (.bi .len (.cons (.v 3) .nil)) .nil))))) (.cons (.forr (.nm 6) (.val (.fz (.call 2 (.e (.v 4) (.e (.v 5) .nil))))) b4_3) .nil))
def b4_1 : LB := (.cons (.asg (.nm 3) (.fz (.lst (.cons (.c .non) (.cons (.fz (.call 1 (.io 1 (.e (.c (.int 99)) .nil)))) (.cons (.bin .sub (.c (.int 0)) (.call 1 (.io 1 (.e (.bin .pow (.c (.int 10)) (.c (.int 15))) .nil)))) (.cons (.bin .pow (.c (.int 10)) (.c (.int 29))) (.cons (.fz (.tup (.cons (.fz (.call 1 (.io 1 (.e (.c (.int 9)) .nil)))) (.cons (.neg (.c (.int 1))) .nil)))) (.cons (.c (.str [65, 45, 66])) (.cons (.c (.str [])) .nil)))))))))) (.cons (.forr (.nm 4) (.rng1 (.c (.int 8))) b4_2) .nil))
def b4 : LB := (.cons (.asg (.nm 1) (.call 0 (.e (.v 0) .nil))) (.cons (.forr (.nm 2) (.rng1 (.bin .add (.c (.int 4)) (.bi .min2 (.cons (.c (.int 8)) (.cons (.bi .len (.cons (.v 0) .nil)) .nil))))) b4_1) (.cons (.ret (.nt (.isz [1, 5, 6]))) .nil)))
def f4 : Fn := ⟨[.val], 8, b4⟩
def t4 : Tb := ⟨["script", "bag", "turn", "values", "which", "held", "one", "place"], defScope (top 15), FT, GL, BL, KT, true, EC, false, HT⟩
def z4 : DZ := ⟨"law", top 15, ["script"], t4, 4, f4⟩
def tbl : Nat → Option Fn
  | 0 => some f0
  | 1 => some f1
  | 2 => some f2
  | 3 => some f3
  | 4 => some f4
  | _ => none
theorem m0 : matB f0.b t0 (defBody (top 11)) = true := by decide +kernel
theorem s0 : FnScope t0.N z0.ps (defScope z0.st) := ⟨rfl, rfl, rfl, by decide +kernel, rfl, by decide +kernel, by decide +kernel⟩
theorem kb0 : ∀ ks j pm m, (z0.nm, ks, j, pm, m) ∈ KT → j = z0.ix ∧ pm.length = z0.ps.length ∧ ∀ (kV doc pmo : Value) (an : Option Addr) (cdv ct : Value) (us ws : List Value), us.length = m → ws.length = ks.length → bindArgs (PySem.W.fnOf z0.nm z0.nm (defArgs z0.st) (defBody z0.st) (defScope z0.st) .none kV doc pmo an cdv ct) ⟨us, ks.zip ws⟩ = pure (z0.ps.zip (pick .none pm (us ++ ws))) := by
  intro ks j pm m h
  exact absurd h List.not_mem_nil
theorem o0 : DOk tbl FT GL BL KT EC HT z0 where
  sc := s0
  tsc := rfl
  tb := rfl
  io := rfl
  n := rfl
  m := m0
  fns := rfl
  hfn := rfl
  ecs := rfl
  gls := rfl
  bls := rfl
  kfns := rfl
  ne := by decide +kernel
  kb := kb0
  bd := fun _ _ _ _ _ _ us hl => match us, hl with | [_], _ => rfl
theorem m1 : matB f1.b t1 (defBody (top 12)) = true := by decide +kernel
theorem s1 : FnScope t1.N z1.ps (defScope z1.st) := ⟨rfl, rfl, rfl, by decide +kernel, rfl, by decide +kernel, by decide +kernel⟩
theorem kb1 : ∀ ks j pm m, (z1.nm, ks, j, pm, m) ∈ KT → j = z1.ix ∧ pm.length = z1.ps.length ∧ ∀ (kV doc pmo : Value) (an : Option Addr) (cdv ct : Value) (us ws : List Value), us.length = m → ws.length = ks.length → bindArgs (PySem.W.fnOf z1.nm z1.nm (defArgs z1.st) (defBody z1.st) (defScope z1.st) .none kV doc pmo an cdv ct) ⟨us, ks.zip ws⟩ = pure (z1.ps.zip (pick .none pm (us ++ ws))) := by
  intro ks j pm m h
  exact absurd h List.not_mem_nil
theorem o1 : DOk tbl FT GL BL KT EC HT z1 where
  sc := s1
  tsc := rfl
  tb := rfl
  io := rfl
  n := rfl
  m := m1
  fns := rfl
  hfn := rfl
  ecs := rfl
  gls := rfl
  bls := rfl
  kfns := rfl
  ne := by decide +kernel
  kb := kb1
  bd := fun _ _ _ _ _ _ us hl => match us, hl with | [_, _], _ => rfl
theorem m2 : matB f2.b t2 (defBody (top 13)) = true := by decide +kernel
theorem s2 : FnScope t2.N z2.ps (defScope z2.st) := ⟨rfl, rfl, rfl, by decide +kernel, rfl, by decide +kernel, by decide +kernel⟩
theorem kb2 : ∀ ks j pm m, (z2.nm, ks, j, pm, m) ∈ KT → j = z2.ix ∧ pm.length = z2.ps.length ∧ ∀ (kV doc pmo : Value) (an : Option Addr) (cdv ct : Value) (us ws : List Value), us.length = m → ws.length = ks.length → bindArgs (PySem.W.fnOf z2.nm z2.nm (defArgs z2.st) (defBody z2.st) (defScope z2.st) .none kV doc pmo an cdv ct) ⟨us, ks.zip ws⟩ = pure (z2.ps.zip (pick .none pm (us ++ ws))) := by
  intro ks j pm m h
  exact absurd h List.not_mem_nil
theorem o2 : DOk tbl FT GL BL KT EC HT z2 where
  sc := s2
  tsc := rfl
  tb := rfl
  io := rfl
  n := rfl
  m := m2
  fns := rfl
  hfn := rfl
  ecs := rfl
  gls := rfl
  bls := rfl
  kfns := rfl
  ne := by decide +kernel
  kb := kb2
  bd := fun _ _ _ _ _ _ us hl => match us, hl with | [_, _], _ => rfl
theorem m3 : matB f3.b t3 (defBody (top 14)) = true := by decide +kernel
theorem s3 : FnScope t3.N z3.ps (defScope z3.st) := ⟨rfl, rfl, rfl, by decide +kernel, rfl, by decide +kernel, by decide +kernel⟩
theorem kb3 : ∀ ks j pm m, (z3.nm, ks, j, pm, m) ∈ KT → j = z3.ix ∧ pm.length = z3.ps.length ∧ ∀ (kV doc pmo : Value) (an : Option Addr) (cdv ct : Value) (us ws : List Value), us.length = m → ws.length = ks.length → bindArgs (PySem.W.fnOf z3.nm z3.nm (defArgs z3.st) (defBody z3.st) (defScope z3.st) .none kV doc pmo an cdv ct) ⟨us, ks.zip ws⟩ = pure (z3.ps.zip (pick .none pm (us ++ ws))) := by
  intro ks j pm m h
  exact absurd h List.not_mem_nil
theorem o3 : DOk tbl FT GL BL KT EC HT z3 where
  sc := s3
  tsc := rfl
  tb := rfl
  io := rfl
  n := rfl
  m := m3
  fns := rfl
  hfn := rfl
  ecs := rfl
  gls := rfl
  bls := rfl
  kfns := rfl
  ne := by decide +kernel
  kb := kb3
  bd := fun _ _ _ _ _ _ us hl => match us, hl with | [_], _ => rfl
theorem m4 : matB f4.b t4 (defBody (top 15)) = true := by decide +kernel
theorem s4 : FnScope t4.N z4.ps (defScope z4.st) := ⟨rfl, rfl, rfl, by decide +kernel, rfl, by decide +kernel, by decide +kernel⟩
theorem kb4 : ∀ ks j pm m, (z4.nm, ks, j, pm, m) ∈ KT → j = z4.ix ∧ pm.length = z4.ps.length ∧ ∀ (kV doc pmo : Value) (an : Option Addr) (cdv ct : Value) (us ws : List Value), us.length = m → ws.length = ks.length → bindArgs (PySem.W.fnOf z4.nm z4.nm (defArgs z4.st) (defBody z4.st) (defScope z4.st) .none kV doc pmo an cdv ct) ⟨us, ks.zip ws⟩ = pure (z4.ps.zip (pick .none pm (us ++ ws))) := by
  intro ks j pm m h
  exact absurd h List.not_mem_nil
theorem o4 : DOk tbl FT GL BL KT EC HT z4 where
  sc := s4
  tsc := rfl
  tb := rfl
  io := rfl
  n := rfl
  m := m4
  fns := rfl
  hfn := rfl
  ecs := rfl
  gls := rfl
  bls := rfl
  kfns := rfl
  ne := by decide +kernel
  kb := kb4
  bd := fun _ _ _ _ _ _ us hl => match us, hl with | [_], _ => rfl
def qs : List DZ := [z0, z1, z2, z3, z4]
def fn : List He.DefD := qs.map DZ.d
def fa : List He.Fa := [.glo "_law_bag", .glo "_law_draw", .glo "_law_made", .glo "_law_flags", .glo "law", .free "ValueError", .free "abs", .free "isinstance", .free "len", .free "min", .free "range", .free "repr"]
abbrev R : PySem.W.OpenRow := PySem.W.OpenLaw.row PySem.Challenge.rw_winbytwo_k01_errors_and_their_values
def file0 : Str := R.prog.main.file
abbrev hk : PySem.W.Hook := Z.hookG 6 fa fn GL file0 EC
def ob (s : PySem.W.SharedT) : He.AlD × Bool := Z.obsG 6 fa fn GL file0 EC (HandSHeadRun.getT s)
theorem ob_eq (s : PySem.W.SharedT) : ob s = hk.obs s.abs := Z.obsG_eq (HandSHeadRun.getT_eq s)
def loose : List PySem.Str := "MatchError" :: "InvalidRace" :: "InvalidPoints" :: "InvalidScore" :: "InvalidSide" :: "InvalidNumber" :: "MatchOver" :: "NothingToUndo" :: "Unreadable" :: "_law_bag" :: "_law_draw" :: "_law_made" :: "_law_flags" :: []
theorem run0 (w : World) : HandSHeadRun.RunEq R (PySem.W.view R.prog [15]) hk ob 4000 loose w := by
  intro os
  kernel_rfl
def wf : Nat := 100000
def lev : Nat := 7
def lawRun (ns : List Int) : FRes := run tbl wf lev 4 [.val] [.lst false (ns.map D.int)]
theorem ok_all : ∀ q ∈ qs, q.d ∈ fn ∧ DOk tbl FT GL BL KT EC HT q := by
  intro q hq
  refine ⟨List.mem_map_of_mem hq, ?_⟩
  simp only [qs, List.mem_cons, List.not_mem_nil, or_false] at hq
  rcases hq with rfl | rfl | rfl | rfl | rfl
  · exact o0
  · exact o1
  · exact o2
  · exact o3
  · exact o4
theorem ok_ft : ∀ y j ps, (y, j, ps) ∈ FT → He.Fa.glo y ∈ fa ∧ ∃ q ∈ qs, q.nm = y ∧ q.ix = j ∧ q.ps = ps := by
  intro y j ps h
  simp only [FT, List.mem_cons, List.not_mem_nil, or_false] at h
  rcases h with h | h | h | h | h
  all_goals
    injection h with h1 h2; injection h2 with h2 h3; subst h1 h2 h3
  · exact ⟨by simp [fa], z0, by simp [qs], rfl, rfl, rfl⟩
  · exact ⟨by simp [fa], z1, by simp [qs], rfl, rfl, rfl⟩
  · exact ⟨by simp [fa], z2, by simp [qs], rfl, rfl, rfl⟩
  · exact ⟨by simp [fa], z3, by simp [qs], rfl, rfl, rfl⟩
  · exact ⟨by simp [fa], z4, by simp [qs], rfl, rfl, rfl⟩
theorem ok_kt : ∀ y ks j pm m, (y, ks, j, pm, m) ∈ KT → He.Fa.glo y ∈ fa ∧ ∃ q ∈ qs, q.nm = y := by
  intro y ks j pm m h
  exact absurd h List.not_mem_nil
theorem ok_ht : ∀ y j ps, (y, j, ps) ∈ HT → He.Fa.glo y ∈ fa ∧ ∃ q ∈ qs, q.nm = y ∧ q.ix = j ∧ q.ps = ps ∧ q.T.hot = true := by
  intro y j ps h
  exact absurd h List.not_mem_nil
theorem ok_bl : ∀ y ∈ BL, He.Fa.free y ∈ fa := by
  intro y h
  simp only [BL, List.mem_cons, List.not_mem_nil, or_false] at h
  rcases h with rfl | rfl | rfl | rfl | rfl | rfl | rfl
  all_goals simp [fa]
theorem facts {P : Program} {w : World} {K : PySem.W.Frag} {h : Heap} {mg : Str → Option Value} {f : Addr} (X : K.In h) (G : h.Ns mainGlobals mg) (hfa : mg ("law" : Str) = some (.ref f)) (c : He.SaysD fa fn K) (cg : (Z.glsB GL K && Z.ecsB file0 K EC) = true) (hfi : P.main.file = file0) (hsu : (P.main.scope.names.lookup Z.sSuper).isSome = false) (H : ∀ ns : List Int, ns.length ≤ 63 → ∃ os, lawRun ns = .ok (.bl true) os) :
    ∃ (fd : FuncData) (sp : Sp), (∀ (s : Shared) (v : Value), BindsTo s fd ⟨[v], []⟩ [("script", v)]) ∧ (∀ (H : Hp) (a : Addr) (ns : List Int), ns.length ≤ 63 → Only H → SqL K H a (ns.map V.int) → sp [.ref a] H (fun v _ => v = .bl true) fun _ _ _ => False) ∧
      ∀ base : Heap, K.In base → base.Ns mainGlobals mg → GFn P w K mg base false lev f fd ["script"] sp := by
  obtain ⟨cg, ce⟩ := Bool.and_eq_true_iff.mp cg
  rw [← hfi] at ce
  obtain ⟨fd, F⟩ := c.defs (show z4.d ∈ fn by exact List.mem_map_of_mem (by simp [qs]))
  have F : FunD K "law" "law" (defArgs z4.st) (defBody z4.st) (defScope z4.st) [] [] (He.ga K "law") fd := F
  have e := hfa.symm.trans (He.glo_ok X G (c.facts (show He.Fa.glo "law" ∈ fa by simp [fa])))
  cases e
  have b := FunD.bindsA (ps := ["script"]) F fun _ _ _ _ _ _ us hl => match us, hl with | [_], _ => rfl
  refine ⟨fd, spF K (run tbl wf lev) 4 [.val], fun s v => b s [v] rfl, fun H0 a ns hl _ hS => ?_, fun base _ _ => ?_⟩
  · obtain ⟨os, h1⟩ := H ns hl
    exact law_sp hS h1
  · exact all_gfn X G c ok_all ok_ft ok_kt ok_ht (Z.ecs_ok X G hsu ce) (Z.gls_ok X G cg) ok_bl lev z4 (by simp [qs]) fd F [.val] rfl
end K01

set_option Elab.async false
set_option linter.all false
set_option maxRecDepth 100000
set_option maxHeartbeats 4000000
set_option exponentiation.threshold 20000
namespace K01
open Z
/-! ### the bag -/
def KS : List (List Nat) := [[103, 114, 101, 97, 116], [108, 101, 102, 116], [116, 117, 114, 110], [98, 108, 101, 110, 100]]
def bagD (gs : List Int) (l t b : Int) : D := .dic KS [.lst true (gs.map D.int), .int l, .int t, .int b]
def Bag (k : Nat) (R : D) : Prop := ∃ gs l t b, R = bagD gs l t b ∧ (∀ g ∈ gs, 0 ≤ g) ∧ gs.length ≤ 63 ∧ 0 ≤ l ∧ (0 ≤ t ∧ t ≤ k) ∧ 0 ≤ b ∧ b < 2 ^ 61
theorem Bag.up {k k' : Nat} {R : D} (h : Bag k R) (hk : k ≤ k') : Bag k' R := by
  obtain ⟨gs, l, t, b, e, h1, h2, h3, ⟨h4, h5⟩, h6⟩ := h
  exact ⟨gs, l, t, b, e, h1, h2, h3, ⟨h4, by omega⟩, h6⟩
theorem bg_left (gs : List Int) (l t b : Int) : ixD (bagD gs l t b) (.str [108, 101, 102, 116]) = some (.int l) := rfl
theorem bg_great (gs : List Int) (l t b : Int) : ixD (bagD gs l t b) (.str [103, 114, 101, 97, 116]) = some (.lst true (gs.map D.int)) := rfl
theorem bg_turn (gs : List Int) (l t b : Int) : ixD (bagD gs l t b) (.str [116, 117, 114, 110]) = some (.int t) := rfl
theorem bg_blend (gs : List Int) (l t b : Int) : ixD (bagD gs l t b) (.str [98, 108, 101, 110, 100]) = some (.int b) := rfl
theorem bg_setl (gs : List Int) (l t b x : Int) : dicSet (bagD gs l t b) (.str [108, 101, 102, 116]) (.int x) = some (bagD gs x t b) := rfl
theorem bg_sett (gs : List Int) (l t b x : Int) : dicSet (bagD gs l t b) (.str [116, 117, 114, 110]) (.int x) = some (bagD gs l x b) := rfl
theorem bg_gett (gs : List Int) (l t b : Int) : dicGet (bagD gs l t b) (.str [116, 117, 114, 110]) = some (.int t) := rfl
theorem bg_place (gs : List Int) (l t b : Int) (e : Env) : plK (0, []) (bagD gs l t b) (.str [103, 114, 101, 97, 116]) e = .ok (0, [.at 0]) e := rfl
theorem bits_s {i : Int} {k : Nat} (h0 : 0 ≤ i) (h1 : i < 2 ^ k) (hk : 1 ≤ k) : bits i ≤ k := bits_lt (Int.lt_of_lt_of_le (by have := Int.pow_pos (n := (2 : Int)) (m := k) (by decide); omega) h0) h1 hk
theorem draw_mix (n k : Nat) (gs : List Int) (l t b L : Int) (hg : ∀ g ∈ gs, 0 ≤ g) (hgl : gs.length ≤ 63) (hl : 0 ≤ l) (ht : 0 ≤ t ∧ t ≤ k) (hb : 0 ≤ b ∧ b < 2 ^ 61) (hk : k ≤ 1000000) (hL : 0 < L) (hbL : bits L < 9000) (hlt : l < L) :
    ∃ x s3 s4, evB (run tbl wf n) wf (.cons (.skA (.s 0) (.c (.str [116, 117, 114, 110])) .add (.c (.int 1))) (.cons (.asg (.nm 3) (.rd (.ix (.bw 0) (.c (.str [116, 117, 114, 110]))))) (.cons (.asg (.nm 4) (.bin .add (.bin .mul (.bin .add (.ix (.bw 0) (.c (.str [98, 108, 101, 110, 100]))) (.bin .mul (.c (.int 17)) (.v 3))) (.bin .pow (.bin .add (.v 3) (.c (.int 29))) (.c (.int 2)))) (.bin .mul (.c (.int 7919)) (.v 3)))) (.cons (.ret (.bin .mod (.bin .fdiv (.bin .mod (.bin .pow (.bin .mod (.v 4) (.c (.int 2305843009213693951))) (.c (.int 3))) (.bin .add (.bin .pow (.c (.int 10)) (.c (.int 18))) (.c (.int 9)))) (.c (.int 64))) (.v 1))) .nil)))) [.pn (bagD gs l t b), .fr (.int L), .no, .no, .no] = .ok (.rt (.int x)) [.pn (bagD gs l (t + 1) b), .fr (.int L), .no, s3, s4] ∧ 0 ≤ x ∧ x < L := by
  obtain ⟨u, hu⟩ : ∃ u, u = t + 1 := ⟨_, rfl⟩
  have u0 : 0 ≤ u ∧ u ≤ 1000001 := by omega
  have e20 : (2 : Int) ^ 21 = 2097152 := by decide
  have e61 : (2 : Int) ^ 61 = 2305843009213693952 := by decide
  have e62 : (2 : Int) ^ 62 = 4611686018427387904 := by decide
  have bu : bits u ≤ 21 := bits_s u0.1 (by rw [e20]; omega) (by decide)
  have M1 : binop .mul (.int 17) (.int u) = some (.int (17 * u)) := mul_of (k := 30) (m := 21) (by decide +kernel) bu (by decide)
  have M4 : binop .mul (.int 7919) (.int u) = some (.int (7919 * u)) := mul_of (k := 30) (m := 21) (by decide +kernel) bu (by decide)
  have P2 : binop .pow (.int (u + 29)) (.int 2) = some (.int ((u + 29) ^ 2)) := by
    have := bits_s (i := u + 29) (k := 21) (by omega) (by rw [e20]; omega) (by decide)
    simp only [binop]
    rw [if_pos ⟨by decide, by omega⟩]
    rfl
  have q0 : 0 ≤ (u + 29) ^ 2 ∧ (u + 29) ^ 2 < 2 ^ 42 := by
    have e : (u + 29) ^ 2 = (u + 29) * (u + 29) := by rw [Int.pow_succ, Int.pow_succ]; simp
    have h1 : (u + 29) * (u + 29) ≤ 1000030 * 1000030 := Int.mul_le_mul (by omega) (by omega) (by omega) (by decide)
    have h2 : 0 ≤ (u + 29) * (u + 29) := Int.mul_nonneg (by omega) (by omega)
    rw [e]
    have e42 : (2 : Int) ^ 42 = 4398046511104 := by decide
    rw [e42]; omega
  have bq := bits_s q0.1 q0.2 (by decide)
  have bz := bits_s (i := b + 17 * u) (k := 62) (by omega) (by rw [e62]; rw [e61] at hb; omega) (by decide)
  have M3 : binop .mul (.int (b + 17 * u)) (.int ((u + 29) ^ 2)) = some (.int ((b + 17 * u) * (u + 29) ^ 2)) := mul_of bz bq (by decide)
  generalize hm : (b + 17 * u) * (u + 29) ^ 2 + 7919 * u = m
  have m0 := Int.emod_nonneg m (show (2305843009213693951 : Int) ≠ 0 by decide)
  have m1 := Int.emod_lt_of_pos m (show (0 : Int) < 2305843009213693951 by decide)
  have D1 : binop .mod (.int m) (.int 2305843009213693951) = some (.int (m % 2305843009213693951)) := mod_of (by decide)
  have P3 : binop .pow (.int (m % 2305843009213693951)) (.int 3) = some (.int ((m % 2305843009213693951) ^ 3)) := by
    have := bits_s (i := m % 2305843009213693951) (k := 61) m0 (by rw [e61]; omega) (by decide)
    simp only [binop]
    rw [if_pos ⟨by decide, by omega⟩]
    rfl
  have P18 : binop .pow (.int 10) (.int 18) = some (.int (10 ^ 18)) := by
    have b : bits 10 = 3 := by decide +kernel
    simp only [binop, b]
    rw [if_pos ⟨by decide, by decide⟩]
    rfl
  have v18 : (10 : Int) ^ 18 + 9 = 1000000000000000009 := by decide
  generalize (m % 2305843009213693951) ^ 3 = w at *
  have D2 : binop .mod (.int w) (.int 1000000000000000009) = some (.int (w % 1000000000000000009)) := mod_of (by decide)
  have D3 : ∀ a, binop .fdiv (.int a) (.int 64) = some (.int (a / 64)) := fun a => by
    simp only [binop]
    rw [if_pos (by decide +kernel)]
  have D4 : ∀ a, binop .mod (.int a) (.int L) = some (.int (a % L)) := fun a => mod_of hL
  refine ⟨w % 1000000000000000009 / 64 % L, .fr (.int u), .fr (.int m), ?_, Int.emod_nonneg _ (by omega), Int.emod_lt_of_pos _ hL⟩
  have io : iop .add (.int t) (.int 1) = some (.int u) := by rw [hu]; rfl
  rw [← hu]
  clear e20 e61 e62 bu bq bz q0 m0 m1 hb
  generalize hp : (10 : Int) ^ 18 = T at *
  generalize (u + 29) ^ 2 = V at *
  simp -implicitDefEqProofs only [eb_nil, eb_cons, es_asg, es_rse, es_tryx, tryK_ok, tryK_xc, tryK_if, xc_then, resF_xc, ev_mkx, ev_isz, ev_isx, isxK_exc, ev_xv, xvK_exc, ev_lm, es_aug, es_ex, es_iff, es_ret, es_retn, es_brk, es_cnt, es_ps, es_st, es_stA, lstI_eq, es_stk, es_stt, ev_tdd, es_skA, es_stl, es_forr, es_whl, ev_int, ev_str, ev_bl, ev_non, ev_v, ev_mv, ev_vz, ev_bw, ev_gl, ev_fz, ev_rd, ev_bin, ev_neg, ev_cmp, ev_chn, ev_an, ev_orr, ev_orv, ev_nt, ev_ite, ev_tup, ev_lst, ev_lss, ev_ix, ev_sl, ev_rev, ev_dlk, ev_fs3, ev_bi, ev_bm, ev_app, ev_mm, ev_pop, ev_popi, popK_int, evl_nil, evl_cons, evq_nil, evq_cons, evq_star, evo_no, evo_so, evc_no, evc_so, evi_val, evi_enu, evi_zip, evi_rng1, evi_rng2, evp_s, evp_ix, call_v1, call_v2, call_v3, call_i0, call_i1, call_i2, call_i3, resF_ok, resI_ok, back_a, back_b, back_c, back_d, ok_then, bad_then, if_then, lift_some, lift_none, lift_if, selB_bl, notK_bl, blK_bl, intK_int, negK_int, rngK_int, rngK2_int, nxK_nx, nxK_rt, nxK_bk, nxK_ct, lstK_lst, plK_lst, plK_dic, ev_dsp, ev_mn4, stK_lst, getP_nil, putP_nil, getS_0f, getS_0p, getS_0b, getS_s, setS_0f, setS_0n, setS_s, putS_0f, putS_0p, putS_s, clrS_0f, clrS_0n, clrS_s, clrA, noX_ok, noX_if, Option.map_some, Option.bind_some, Option.map_none, Option.bind_none, tgt_nm, tgt_tup, tgt_lst, tgts_cons, tgts_nil, scalD, fzn, fznL, if_true, Bool.false_eq_true, if_false, decide_true, decide_false, Bool.not_true, Bool.not_false, Bool.and_true, Bool.and_false, Bool.true_and, Bool.false_and, List.length_cons, List.length_nil, Nat.zero_add, Nat.reduceAdd, sz_0, sz_1, sz_2, sz_3, sz_4, sz_5, sz_6, sz_7, sz_8, sz_9, sz_10, sz_11, sz_12, bg_gett, bg_sett, bg_turn, bg_blend, io, M1, add_of, P2, M3, M4, hm, D1, P3, P18, v18, D2, D3, D4]
theorem run_draw (n k : Nat) (R : D) (L : Int) (hr : Bag k R) (hk : k ≤ 1000000) (hL : 0 < L) (hb : bits L < 9000) : ∃ x R', run tbl wf (n + 1) 1 [.io, .val] [R, .int L] = .ok (.int x) [some R', none] ∧ 0 ≤ x ∧ x < L ∧ Bag (k + 1) R' := by
  obtain ⟨gs, l, t, b, rfl, h1, h2, h3, h4, h5⟩ := hr
  have D4 : ∀ a, binop .mod (.int a) (.int L) = some (.int (a % L)) := fun a => mod_of hL
  have D5 : ∀ a, binop .fdiv (.int a) (.int L) = some (.int (a / L)) := fun a => if_pos ⟨hL, hb⟩
  -- the digits of the next great number
  obtain ⟨gs', l', st, g1, g2, g3⟩ : ∃ gs' l', evS (run tbl wf n) wf (match K01.b1 with | .cons a _ => a | .nil => .ps) [.pn (bagD gs l t b), .fr (.int L), .no, .no, .no] = .ok .nx [.pn (bagD gs' l' t b), .fr (.int L), .no, .no, .no] ∧ (∀ g ∈ gs', 0 ≤ g) ∧ gs'.length ≤ 63 ∧ 0 ≤ l' := by
    by_cases c1 : l < L
    · have d1 : cmpop .lt (.int l) (.int L) = some true := by rw [cmp_ltI, decide_eq_true c1]
      cases gs with
      | nil =>
        have ln : biop .len [.lst true (([] : List Int).map D.int)] = some (.int 0) := rfl
        have d2 : cmpop .gt (.int 0) (.int 0) = some false := rfl
        refine ⟨[], l, ?_, h1, h2, h3⟩
        simp -implicitDefEqProofs only [K01.b1, eb_nil, eb_cons, es_asg, es_rse, es_tryx, tryK_ok, tryK_xc, tryK_if, xc_then, resF_xc, ev_mkx, ev_isz, ev_isx, isxK_exc, ev_xv, xvK_exc, ev_lm, es_aug, es_ex, es_iff, es_ret, es_retn, es_brk, es_cnt, es_ps, es_st, es_stA, lstI_eq, es_stk, es_stt, ev_tdd, es_skA, es_stl, es_forr, es_whl, ev_int, ev_str, ev_bl, ev_non, ev_v, ev_mv, ev_vz, ev_bw, ev_gl, ev_fz, ev_rd, ev_bin, ev_neg, ev_cmp, ev_chn, ev_an, ev_orr, ev_orv, ev_nt, ev_ite, ev_tup, ev_lst, ev_lss, ev_ix, ev_sl, ev_rev, ev_dlk, ev_fs3, ev_bi, ev_bm, ev_app, ev_mm, ev_pop, ev_popi, popK_int, evl_nil, evl_cons, evq_nil, evq_cons, evq_star, evo_no, evo_so, evc_no, evc_so, evi_val, evi_enu, evi_zip, evi_rng1, evi_rng2, evp_s, evp_ix, call_v1, call_v2, call_v3, call_i0, call_i1, call_i2, call_i3, resF_ok, resI_ok, back_a, back_b, back_c, back_d, ok_then, bad_then, if_then, lift_some, lift_none, lift_if, selB_bl, notK_bl, blK_bl, intK_int, negK_int, rngK_int, rngK2_int, nxK_nx, nxK_rt, nxK_bk, nxK_ct, lstK_lst, plK_lst, plK_dic, ev_dsp, ev_mn4, stK_lst, getP_nil, putP_nil, getS_0f, getS_0p, getS_0b, getS_s, setS_0f, setS_0n, setS_s, putS_0f, putS_0p, putS_s, clrS_0f, clrS_0n, clrS_s, clrA, noX_ok, noX_if, Option.map_some, Option.bind_some, Option.map_none, Option.bind_none, tgt_nm, tgt_tup, tgt_lst, tgts_cons, tgts_nil, scalD, fzn, fznL, if_true, Bool.false_eq_true, if_false, decide_true, decide_false, Bool.not_true, Bool.not_false, Bool.and_true, Bool.and_false, Bool.true_and, Bool.false_and, List.length_cons, List.length_nil, Nat.zero_add, Nat.reduceAdd, sz_0, sz_1, sz_2, sz_3, sz_4, sz_5, sz_6, sz_7, sz_8, sz_9, sz_10, sz_11, sz_12, bg_left, bg_great, d1, ln, d2]
      | cons g gs =>
        have ln : biop .len [.lst true ((g :: gs).map D.int)] = some (.int ((g :: gs).length : Nat)) := by simp [biop]
        have d2 : cmpop .gt (.int ((g :: gs).length : Nat)) (.int 0) = some true := by rw [cmp_gtI, decide_eq_true (by simp)]
        have gp : ∀ e, getP (.pn (bagD (g :: gs) l t b) :: e) 0 [.at 0] = some (.lst true ((g :: gs).map D.int)) := fun e => rfl
        have pp : ∀ e, putP (.pn (bagD (g :: gs) l t b) :: e) 0 [.at 0] (.lst true (((g :: gs).map D.int).eraseIdx 0)) = some (.pn (bagD gs l t b) :: e) := fun e => rfl
        have sz : (((g :: gs).map D.int).length ≤ sizeL) = True := eq_true (by
          have : sizeL = 16777216 := rfl
          simp at h2 ⊢; omega)
        have ip : ixP ((g :: gs).map D.int).length 0 = some 0 := by unfold ixP; rw [if_pos (by decide), if_pos (by simp)]; rfl
        have g0 : ((g :: gs).map D.int)[0]? = some (.int g) := rfl
        refine ⟨gs, g, ?_, fun q hq => h1 q (by simp [hq]), by simp at h2; omega, h1 g (by simp)⟩
        have bgr := bg_great (g :: gs) l t b
        have bgl := bg_left (g :: gs) l t b
        have bpl := bg_place (g :: gs) l t b
        clear h1 h2
        generalize (((g :: gs).length : Nat) : Int) = N at *
        generalize (g :: gs).map D.int = W at *
        generalize bagD (g :: gs) l t b = BG at *
        simp -implicitDefEqProofs only [K01.b1, eb_nil, eb_cons, es_asg, es_rse, es_tryx, tryK_ok, tryK_xc, tryK_if, xc_then, resF_xc, ev_mkx, ev_isz, ev_isx, isxK_exc, ev_xv, xvK_exc, ev_lm, es_aug, es_ex, es_iff, es_ret, es_retn, es_brk, es_cnt, es_ps, es_st, es_stA, lstI_eq, es_stk, es_stt, ev_tdd, es_skA, es_stl, es_forr, es_whl, ev_int, ev_str, ev_bl, ev_non, ev_v, ev_mv, ev_vz, ev_bw, ev_gl, ev_fz, ev_rd, ev_bin, ev_neg, ev_cmp, ev_chn, ev_an, ev_orr, ev_orv, ev_nt, ev_ite, ev_tup, ev_lst, ev_lss, ev_ix, ev_sl, ev_rev, ev_dlk, ev_fs3, ev_bi, ev_bm, ev_app, ev_mm, ev_pop, ev_popi, popK_int, evl_nil, evl_cons, evq_nil, evq_cons, evq_star, evo_no, evo_so, evc_no, evc_so, evi_val, evi_enu, evi_zip, evi_rng1, evi_rng2, evp_s, evp_ix, call_v1, call_v2, call_v3, call_i0, call_i1, call_i2, call_i3, resF_ok, resI_ok, back_a, back_b, back_c, back_d, ok_then, bad_then, if_then, lift_some, lift_none, lift_if, selB_bl, notK_bl, blK_bl, intK_int, negK_int, rngK_int, rngK2_int, nxK_nx, nxK_rt, nxK_bk, nxK_ct, lstK_lst, plK_lst, plK_dic, ev_dsp, ev_mn4, stK_lst, getP_nil, putP_nil, getS_0f, getS_0p, getS_0b, getS_s, setS_0f, setS_0n, setS_s, putS_0f, putS_0p, putS_s, clrS_0f, clrS_0n, clrS_s, clrA, noX_ok, noX_if, Option.map_some, Option.bind_some, Option.map_none, Option.bind_none, tgt_nm, tgt_tup, tgt_lst, tgts_cons, tgts_nil, scalD, fzn, fznL, if_true, Bool.false_eq_true, if_false, decide_true, decide_false, Bool.not_true, Bool.not_false, Bool.and_true, Bool.and_false, Bool.true_and, Bool.false_and, List.length_cons, List.length_nil, Nat.zero_add, Nat.reduceAdd, sz_0, sz_1, sz_2, sz_3, sz_4, sz_5, sz_6, sz_7, sz_8, sz_9, sz_10, sz_11, sz_12, bgl, bgr, d1, ln, d2, bpl, gp, sz, ip, g0, pp, bg_setl]
    · have d1 : cmpop .lt (.int l) (.int L) = some false := by rw [cmp_ltI, decide_eq_false c1]
      refine ⟨gs, l, ?_, h1, h2, h3⟩
      simp -implicitDefEqProofs only [K01.b1, eb_nil, eb_cons, es_asg, es_rse, es_tryx, tryK_ok, tryK_xc, tryK_if, xc_then, resF_xc, ev_mkx, ev_isz, ev_isx, isxK_exc, ev_xv, xvK_exc, ev_lm, es_aug, es_ex, es_iff, es_ret, es_retn, es_brk, es_cnt, es_ps, es_st, es_stA, lstI_eq, es_stk, es_stt, ev_tdd, es_skA, es_stl, es_forr, es_whl, ev_int, ev_str, ev_bl, ev_non, ev_v, ev_mv, ev_vz, ev_bw, ev_gl, ev_fz, ev_rd, ev_bin, ev_neg, ev_cmp, ev_chn, ev_an, ev_orr, ev_orv, ev_nt, ev_ite, ev_tup, ev_lst, ev_lss, ev_ix, ev_sl, ev_rev, ev_dlk, ev_fs3, ev_bi, ev_bm, ev_app, ev_mm, ev_pop, ev_popi, popK_int, evl_nil, evl_cons, evq_nil, evq_cons, evq_star, evo_no, evo_so, evc_no, evc_so, evi_val, evi_enu, evi_zip, evi_rng1, evi_rng2, evp_s, evp_ix, call_v1, call_v2, call_v3, call_i0, call_i1, call_i2, call_i3, resF_ok, resI_ok, back_a, back_b, back_c, back_d, ok_then, bad_then, if_then, lift_some, lift_none, lift_if, selB_bl, notK_bl, blK_bl, intK_int, negK_int, rngK_int, rngK2_int, nxK_nx, nxK_rt, nxK_bk, nxK_ct, lstK_lst, plK_lst, plK_dic, ev_dsp, ev_mn4, stK_lst, getP_nil, putP_nil, getS_0f, getS_0p, getS_0b, getS_s, setS_0f, setS_0n, setS_s, putS_0f, putS_0p, putS_s, clrS_0f, clrS_0n, clrS_s, clrA, noX_ok, noX_if, Option.map_some, Option.bind_some, Option.map_none, Option.bind_none, tgt_nm, tgt_tup, tgt_lst, tgts_cons, tgts_nil, scalD, fzn, fznL, if_true, Bool.false_eq_true, if_false, decide_true, decide_false, Bool.not_true, Bool.not_false, Bool.and_true, Bool.and_false, Bool.true_and, Bool.false_and, List.length_cons, List.length_nil, Nat.zero_add, Nat.reduceAdd, sz_0, sz_1, sz_2, sz_3, sz_4, sz_5, sz_6, sz_7, sz_8, sz_9, sz_10, sz_11, sz_12, bg_left, d1]
  by_cases c2 : L ≤ l'
  · have d2 : cmpop .ge (.int l') (.int L) = some true := by
      show some (decide (L ≤ l')) = _
      rw [decide_eq_true c2]
    refine ⟨l' % L, bagD gs' (l' / L) t b, ?_, Int.emod_nonneg _ (by omega), Int.emod_lt_of_pos _ hL, gs', l' / L, t, b, rfl, g1, g2, Int.ediv_nonneg g3 (by omega), ⟨h4.1, by omega⟩, h5⟩
    refine run_rt (F := K01.f1) (e0 := [.pn (bagD gs l t b), .fr (.int L)]) (e1 := [.pn (bagD gs' (l' / L) t b), .fr (.int L), .fr (.int (l' % L)), .no, .no]) rfl rfl rfl ?_ rfl
    show evB _ wf K01.b1 [.pn (bagD gs l t b), .fr (.int L), .no, .no, .no] = _
    simp only [K01.b1] at st
    rw [K01.b1, eb_cons, st, ok_then, nxK_nx]
    simp -implicitDefEqProofs only [eb_nil, eb_cons, es_asg, es_rse, es_tryx, tryK_ok, tryK_xc, tryK_if, xc_then, resF_xc, ev_mkx, ev_isz, ev_isx, isxK_exc, ev_xv, xvK_exc, ev_lm, es_aug, es_ex, es_iff, es_ret, es_retn, es_brk, es_cnt, es_ps, es_st, es_stA, lstI_eq, es_stk, es_stt, ev_tdd, es_skA, es_stl, es_forr, es_whl, ev_int, ev_str, ev_bl, ev_non, ev_v, ev_mv, ev_vz, ev_bw, ev_gl, ev_fz, ev_rd, ev_bin, ev_neg, ev_cmp, ev_chn, ev_an, ev_orr, ev_orv, ev_nt, ev_ite, ev_tup, ev_lst, ev_lss, ev_ix, ev_sl, ev_rev, ev_dlk, ev_fs3, ev_bi, ev_bm, ev_app, ev_mm, ev_pop, ev_popi, popK_int, evl_nil, evl_cons, evq_nil, evq_cons, evq_star, evo_no, evo_so, evc_no, evc_so, evi_val, evi_enu, evi_zip, evi_rng1, evi_rng2, evp_s, evp_ix, call_v1, call_v2, call_v3, call_i0, call_i1, call_i2, call_i3, resF_ok, resI_ok, back_a, back_b, back_c, back_d, ok_then, bad_then, if_then, lift_some, lift_none, lift_if, selB_bl, notK_bl, blK_bl, intK_int, negK_int, rngK_int, rngK2_int, nxK_nx, nxK_rt, nxK_bk, nxK_ct, lstK_lst, plK_lst, plK_dic, ev_dsp, ev_mn4, stK_lst, getP_nil, putP_nil, getS_0f, getS_0p, getS_0b, getS_s, setS_0f, setS_0n, setS_s, putS_0f, putS_0p, putS_s, clrS_0f, clrS_0n, clrS_s, clrA, noX_ok, noX_if, Option.map_some, Option.bind_some, Option.map_none, Option.bind_none, tgt_nm, tgt_tup, tgt_lst, tgts_cons, tgts_nil, scalD, fzn, fznL, if_true, Bool.false_eq_true, if_false, decide_true, decide_false, Bool.not_true, Bool.not_false, Bool.and_true, Bool.and_false, Bool.true_and, Bool.false_and, List.length_cons, List.length_nil, Nat.zero_add, Nat.reduceAdd, sz_0, sz_1, sz_2, sz_3, sz_4, sz_5, sz_6, sz_7, sz_8, sz_9, sz_10, sz_11, sz_12, bg_left, d2, D4, D5, bg_setl]
  · have d2 : cmpop .ge (.int l') (.int L) = some false := by
      show some (decide (L ≤ l')) = _
      rw [decide_eq_false c2]
    obtain ⟨x, s3, s4, e, x0, x1⟩ := draw_mix n k gs' l' t b L g1 g2 g3 h4 h5 hk hL hb (by omega)
    refine ⟨x, bagD gs' l' (t + 1) b, ?_, x0, x1, gs', l', t + 1, b, rfl, g1, g2, g3, ⟨by omega, by omega⟩, h5⟩
    refine run_rt (F := K01.f1) (e0 := [.pn (bagD gs l t b), .fr (.int L)]) (e1 := [.pn (bagD gs' l' (t + 1) b), .fr (.int L), .no, s3, s4]) rfl rfl rfl ?_ rfl
    show evB _ wf K01.b1 [.pn (bagD gs l t b), .fr (.int L), .no, .no, .no] = _
    simp only [K01.b1] at st
    rw [K01.b1, eb_cons, st, ok_then, nxK_nx, eb_cons]
    have s2 : evS (run tbl wf n) wf (.iff (.cmp .ge (.ix (.bw 0) (.c (.str [108, 101, 102, 116]))) (.v 1)) (.cons (.asg (.nm 2) (.bin .mod (.ix (.bw 0) (.c (.str [108, 101, 102, 116]))) (.v 1))) (.cons (.stk (.s 0) (.c (.str [108, 101, 102, 116])) (.bin .fdiv (.ix (.bw 0) (.c (.str [108, 101, 102, 116]))) (.v 1))) (.cons (.ret (.v 2)) .nil))) .nil) [.pn (bagD gs' l' t b), .fr (.int L), .no, .no, .no] = .ok .nx [.pn (bagD gs' l' t b), .fr (.int L), .no, .no, .no] := by
      simp -implicitDefEqProofs only [eb_nil, eb_cons, es_asg, es_rse, es_tryx, tryK_ok, tryK_xc, tryK_if, xc_then, resF_xc, ev_mkx, ev_isz, ev_isx, isxK_exc, ev_xv, xvK_exc, ev_lm, es_aug, es_ex, es_iff, es_ret, es_retn, es_brk, es_cnt, es_ps, es_st, es_stA, lstI_eq, es_stk, es_stt, ev_tdd, es_skA, es_stl, es_forr, es_whl, ev_int, ev_str, ev_bl, ev_non, ev_v, ev_mv, ev_vz, ev_bw, ev_gl, ev_fz, ev_rd, ev_bin, ev_neg, ev_cmp, ev_chn, ev_an, ev_orr, ev_orv, ev_nt, ev_ite, ev_tup, ev_lst, ev_lss, ev_ix, ev_sl, ev_rev, ev_dlk, ev_fs3, ev_bi, ev_bm, ev_app, ev_mm, ev_pop, ev_popi, popK_int, evl_nil, evl_cons, evq_nil, evq_cons, evq_star, evo_no, evo_so, evc_no, evc_so, evi_val, evi_enu, evi_zip, evi_rng1, evi_rng2, evp_s, evp_ix, call_v1, call_v2, call_v3, call_i0, call_i1, call_i2, call_i3, resF_ok, resI_ok, back_a, back_b, back_c, back_d, ok_then, bad_then, if_then, lift_some, lift_none, lift_if, selB_bl, notK_bl, blK_bl, intK_int, negK_int, rngK_int, rngK2_int, nxK_nx, nxK_rt, nxK_bk, nxK_ct, lstK_lst, plK_lst, plK_dic, ev_dsp, ev_mn4, stK_lst, getP_nil, putP_nil, getS_0f, getS_0p, getS_0b, getS_s, setS_0f, setS_0n, setS_s, putS_0f, putS_0p, putS_s, clrS_0f, clrS_0n, clrS_s, clrA, noX_ok, noX_if, Option.map_some, Option.bind_some, Option.map_none, Option.bind_none, tgt_nm, tgt_tup, tgt_lst, tgts_cons, tgts_nil, scalD, fzn, fznL, if_true, Bool.false_eq_true, if_false, decide_true, decide_false, Bool.not_true, Bool.not_false, Bool.and_true, Bool.and_false, Bool.true_and, Bool.false_and, List.length_cons, List.length_nil, Nat.zero_add, Nat.reduceAdd, sz_0, sz_1, sz_2, sz_3, sz_4, sz_5, sz_6, sz_7, sz_8, sz_9, sz_10, sz_11, sz_12, bg_left, d2]
    rw [s2, ok_then, nxK_nx, e]
theorem cmp_ge2 (i j : Int) : cmpop .ge (.int i) (.int j) = some (decide (j ≤ i)) := rfl
/-! ### the bag made -/
theorem bag_turn (n : Nat) (S : D) (b i : Int) (gs : List Int) (x3 : Slot) (hb : 0 ≤ b ∧ b < 2 ^ 61) (hl : gs.length ≤ 1000) (hg : ∀ g ∈ gs, 0 ≤ g) :
    ∃ (b' : Int) (gs' : List Int), (0 ≤ b' ∧ b' < 2 ^ 61) ∧ gs'.length ≤ gs.length + 1 ∧ (∀ g ∈ gs', 0 ≤ g) ∧ evB (run tbl wf n) wf K01.b0_1 [.fr S, .fr (.int b), .fr (.lst true (gs.map D.int)), .fr (.int i)] = .ok .nx [.fr S, .fr (.int b'), .fr (.lst true (gs'.map D.int)), .fr (.int i)] := by
  have e61 : (2 : Int) ^ 61 = 2305843009213693952 := by decide
  have bb := bits_s hb.1 hb.2 (by decide)
  have M : binop .mul (.int b) (.int 1000003) = some (.int (b * 1000003)) := mul_of (k := 61) (m := 30) bb (by decide +kernel) (by decide)
  have D1 : ∀ a, binop .mod (.int a) (.int 2305843009213693951) = some (.int (a % 2305843009213693951)) := fun a => mod_of (by decide)
  have r0 := Int.emod_nonneg (b * 1000003 + i) (show (2305843009213693951 : Int) ≠ 0 by decide)
  have r1 := Int.emod_lt_of_pos (b * 1000003 + i) (show (0 : Int) < 2305843009213693951 by decide)
  have ab : biop .abs [.int i] = some (.int (if i < 0 then -i else i)) := rfl
  have P18 : binop .pow (.int 10) (.int 18) = some (.int (10 ^ 18)) := by
    have b : bits 10 = 3 := by decide +kernel
    simp only [binop, b]
    rw [if_pos ⟨by decide, by decide⟩]
    rfl
  have a0 : 0 ≤ (if i < 0 then -i else i) := by split <;> omega
  generalize (if i < 0 then -i else i) = j at *
  refine ⟨(b * 1000003 + i) % 2305843009213693951, if 10 ^ 18 ≤ j then gs ++ [j] else gs, ⟨r0, by rw [e61]; omega⟩, by split <;> simp, ?_, ?_⟩
  · split
    · intro g h
      rcases List.mem_append.mp h with h | h
      · exact hg g h
      · rw [List.mem_singleton.mp h]; exact a0
    · exact hg
  · have sz : ((gs.map D.int).length < sizeL) = True := eq_true (by simp; have : sizeL = 16777216 := rfl; omega)
    clear r0 r1 e61 hb bb
    generalize (10 : Int) ^ 18 = T at *
    by_cases c : T ≤ j
    · have d : decide (T ≤ j) = true := decide_eq_true c
      rw [if_pos c]
      have ea : (gs ++ [j]).map D.int = gs.map D.int ++ [.int j] := by simp
      rw [ea]
      simp -implicitDefEqProofs only [K01.b0_1, eb_nil, eb_cons, es_asg, es_rse, es_tryx, tryK_ok, tryK_xc, tryK_if, xc_then, resF_xc, ev_mkx, ev_isz, ev_isx, isxK_exc, ev_xv, xvK_exc, ev_lm, es_aug, es_ex, es_iff, es_ret, es_retn, es_brk, es_cnt, es_ps, es_st, es_stA, lstI_eq, es_stk, es_stt, ev_tdd, es_skA, es_stl, es_forr, es_whl, ev_int, ev_str, ev_bl, ev_non, ev_v, ev_mv, ev_vz, ev_bw, ev_gl, ev_fz, ev_rd, ev_bin, ev_neg, ev_cmp, ev_chn, ev_an, ev_orr, ev_orv, ev_nt, ev_ite, ev_tup, ev_lst, ev_lss, ev_ix, ev_sl, ev_rev, ev_dlk, ev_fs3, ev_bi, ev_bm, ev_app, ev_mm, ev_pop, ev_popi, popK_int, evl_nil, evl_cons, evq_nil, evq_cons, evq_star, evo_no, evo_so, evc_no, evc_so, evi_val, evi_enu, evi_zip, evi_rng1, evi_rng2, evp_s, evp_ix, call_v1, call_v2, call_v3, call_i0, call_i1, call_i2, call_i3, resF_ok, resI_ok, back_a, back_b, back_c, back_d, ok_then, bad_then, if_then, lift_some, lift_none, lift_if, selB_bl, notK_bl, blK_bl, intK_int, negK_int, rngK_int, rngK2_int, nxK_nx, nxK_rt, nxK_bk, nxK_ct, lstK_lst, plK_lst, plK_dic, ev_dsp, ev_mn4, stK_lst, getP_nil, putP_nil, getS_0f, getS_0p, getS_0b, getS_s, setS_0f, setS_0n, setS_s, putS_0f, putS_0p, putS_s, clrS_0f, clrS_0n, clrS_s, clrA, noX_ok, noX_if, Option.map_some, Option.bind_some, Option.map_none, Option.bind_none, tgt_nm, tgt_tup, tgt_lst, tgts_cons, tgts_nil, scalD, fzn, fznL, if_true, Bool.false_eq_true, if_false, decide_true, decide_false, Bool.not_true, Bool.not_false, Bool.and_true, Bool.and_false, Bool.true_and, Bool.false_and, List.length_cons, List.length_nil, Nat.zero_add, Nat.reduceAdd, sz_0, sz_1, sz_2, sz_3, sz_4, sz_5, sz_6, sz_7, sz_8, sz_9, sz_10, sz_11, sz_12, M, add_of, D1, ab, P18, cmp_ge2, d, sz]
    · have d : decide (T ≤ j) = false := decide_eq_false c
      rw [if_neg c]
      simp -implicitDefEqProofs only [K01.b0_1, eb_nil, eb_cons, es_asg, es_rse, es_tryx, tryK_ok, tryK_xc, tryK_if, xc_then, resF_xc, ev_mkx, ev_isz, ev_isx, isxK_exc, ev_xv, xvK_exc, ev_lm, es_aug, es_ex, es_iff, es_ret, es_retn, es_brk, es_cnt, es_ps, es_st, es_stA, lstI_eq, es_stk, es_stt, ev_tdd, es_skA, es_stl, es_forr, es_whl, ev_int, ev_str, ev_bl, ev_non, ev_v, ev_mv, ev_vz, ev_bw, ev_gl, ev_fz, ev_rd, ev_bin, ev_neg, ev_cmp, ev_chn, ev_an, ev_orr, ev_orv, ev_nt, ev_ite, ev_tup, ev_lst, ev_lss, ev_ix, ev_sl, ev_rev, ev_dlk, ev_fs3, ev_bi, ev_bm, ev_app, ev_mm, ev_pop, ev_popi, popK_int, evl_nil, evl_cons, evq_nil, evq_cons, evq_star, evo_no, evo_so, evc_no, evc_so, evi_val, evi_enu, evi_zip, evi_rng1, evi_rng2, evp_s, evp_ix, call_v1, call_v2, call_v3, call_i0, call_i1, call_i2, call_i3, resF_ok, resI_ok, back_a, back_b, back_c, back_d, ok_then, bad_then, if_then, lift_some, lift_none, lift_if, selB_bl, notK_bl, blK_bl, intK_int, negK_int, rngK_int, rngK2_int, nxK_nx, nxK_rt, nxK_bk, nxK_ct, lstK_lst, plK_lst, plK_dic, ev_dsp, ev_mn4, stK_lst, getP_nil, putP_nil, getS_0f, getS_0p, getS_0b, getS_s, setS_0f, setS_0n, setS_s, putS_0f, putS_0p, putS_s, clrS_0f, clrS_0n, clrS_s, clrA, noX_ok, noX_if, Option.map_some, Option.bind_some, Option.map_none, Option.bind_none, tgt_nm, tgt_tup, tgt_lst, tgts_cons, tgts_nil, scalD, fzn, fznL, if_true, Bool.false_eq_true, if_false, decide_true, decide_false, Bool.not_true, Bool.not_false, Bool.and_true, Bool.and_false, Bool.true_and, Bool.false_and, List.length_cons, List.length_nil, Nat.zero_add, Nat.reduceAdd, sz_0, sz_1, sz_2, sz_3, sz_4, sz_5, sz_6, sz_7, sz_8, sz_9, sz_10, sz_11, sz_12, M, add_of, D1, ab, P18, cmp_ge2, d]
theorem bag_loop (n : Nat) (S : D) : ∀ (is : List Int) (b : Int) (gs : List Int) (x3 : Slot), (0 ≤ b ∧ b < 2 ^ 61) → gs.length + is.length ≤ 63 → (∀ g ∈ gs, 0 ≤ g) → Fs x3 →
    ∃ (b' : Int) (gs' : List Int) (y3 : Slot), (0 ≤ b' ∧ b' < 2 ^ 61) ∧ gs'.length ≤ 63 ∧ (∀ g ∈ gs', 0 ≤ g) ∧ loopF (fun d e => (lift (tgt (.nm 3) d e) e).andThen fun e _ => evB (run tbl wf n) wf K01.b0_1 e) (is.map D.int) [.fr S, .fr (.int b), .fr (.lst true (gs.map D.int)), x3] = .ok .nx [.fr S, .fr (.int b'), .fr (.lst true (gs'.map D.int)), y3]
  | [], b, gs, x3, hb, hl, hg, h3 => ⟨b, gs, x3, hb, by simpa using hl, hg, rfl⟩
  | i :: is, b, gs, x3, hb, hl, hg, h3 => by
    simp only [List.length_cons] at hl
    obtain ⟨b1, g1, hb1, hl1, hg1, e1⟩ := bag_turn n S b i gs x3 hb (by omega) hg
    obtain ⟨b', gs', y3, hb', hl', hg', ih⟩ := bag_loop n S is b1 g1 (.fr (.int i)) hb1 (by omega) hg1 .fr
    refine ⟨b', gs', y3, hb', hl', hg', ?_⟩
    rw [← ih, List.map_cons, loopF]
    simp -implicitDefEqProofs only [tgt_nm, setS_s, setS_0 h3, Option.map_some, lift_some, ok_then, e1]
theorem run_bag (n : Nat) (ns : List Int) (hn : ns.length ≤ 63) : ∃ R, run tbl wf (n + 1) 0 [.val] [.lst false (ns.map D.int)] = .ok R [none] ∧ Bag 0 R := by
  obtain ⟨b, gs, y3, hb, hl, hg, k⟩ := bag_loop n (.lst false (ns.map D.int)) ns 11 [] .no ⟨by decide, by decide⟩ (by simpa using hn) (fun g h => by cases h) .no
  simp only [List.map_nil] at k
  have f1 : fznL (ns.map D.int) = true := (ints_frz ns).2.2
  have it : itemsOf (.lst false (ns.map D.int)) = some (ns.map D.int) := by
    unfold itemsOf frz?
    simp only [canF, frz, (ints_frz ns).1, (ints_frz ns).2.1, if_true]
  have dd : (decide (KS.length = 4) && decide KS.Nodup && decide (KS ≠ []) && decide (KS.length ≤ 15)) = true := by decide +kernel
  refine ⟨bagD gs 0 0 b, ?_, gs, 0, 0, b, rfl, hg, hl, by decide, ⟨by decide, by decide⟩, hb⟩
  refine run_rt (F := K01.f0) (e0 := [.fr (.lst false (ns.map D.int))]) (e1 := [.fr (.lst false (ns.map D.int)), .fr (.int b), .no, y3]) rfl rfl rfl ?_ rfl
  show evB _ wf K01.b0 [.fr (.lst false (ns.map D.int)), .no, .no, .no] = _
  have st : evE (run tbl wf n) (.dsp [[103, 114, 101, 97, 116], [108, 101, 102, 116], [116, 117, 114, 110], [98, 108, 101, 110, 100]] (.cons (.mv 2) (.cons (.c (.int 0)) (.cons (.c (.int 0)) (.cons (.v 1) .nil))))) [.fr (.lst false (ns.map D.int)), .fr (.int b), .fr (.lst true (gs.map D.int)), y3] = .ok (bagD gs 0 0 b) [.fr (.lst false (ns.map D.int)), .fr (.int b), .no, y3] := by
    rw [ev_dsp]
    have el : evL (run tbl wf n) (.cons (.mv 2) (.cons (.c (.int 0)) (.cons (.c (.int 0)) (.cons (.v 1) .nil)))) [.fr (.lst false (ns.map D.int)), .fr (.int b), .fr (.lst true (gs.map D.int)), y3] = .ok [.lst true (gs.map D.int), .int 0, .int 0, .int b] [.fr (.lst false (ns.map D.int)), .fr (.int b), .no, y3] := by
      simp -implicitDefEqProofs only [eb_nil, eb_cons, es_asg, es_rse, es_tryx, tryK_ok, tryK_xc, tryK_if, xc_then, resF_xc, ev_mkx, ev_isz, ev_isx, isxK_exc, ev_xv, xvK_exc, ev_lm, es_aug, es_ex, es_iff, es_ret, es_retn, es_brk, es_cnt, es_ps, es_st, es_stA, lstI_eq, es_stk, es_stt, ev_tdd, es_skA, es_stl, es_forr, es_whl, ev_int, ev_str, ev_bl, ev_non, ev_v, ev_mv, ev_vz, ev_bw, ev_gl, ev_fz, ev_rd, ev_bin, ev_neg, ev_cmp, ev_chn, ev_an, ev_orr, ev_orv, ev_nt, ev_ite, ev_tup, ev_lst, ev_lss, ev_ix, ev_sl, ev_rev, ev_dlk, ev_fs3, ev_bi, ev_bm, ev_app, ev_mm, ev_pop, ev_popi, popK_int, evl_nil, evl_cons, evq_nil, evq_cons, evq_star, evo_no, evo_so, evc_no, evc_so, evi_val, evi_enu, evi_zip, evi_rng1, evi_rng2, evp_s, evp_ix, call_v1, call_v2, call_v3, call_i0, call_i1, call_i2, call_i3, resF_ok, resI_ok, back_a, back_b, back_c, back_d, ok_then, bad_then, if_then, lift_some, lift_none, lift_if, selB_bl, notK_bl, blK_bl, intK_int, negK_int, rngK_int, rngK2_int, nxK_nx, nxK_rt, nxK_bk, nxK_ct, lstK_lst, plK_lst, plK_dic, ev_dsp, ev_mn4, stK_lst, getP_nil, putP_nil, getS_0f, getS_0p, getS_0b, getS_s, setS_0f, setS_0n, setS_s, putS_0f, putS_0p, putS_s, clrS_0f, clrS_0n, clrS_s, clrA, noX_ok, noX_if, Option.map_some, Option.bind_some, Option.map_none, Option.bind_none, tgt_nm, tgt_tup, tgt_lst, tgts_cons, tgts_nil, scalD, fzn, fznL, if_true, Bool.false_eq_true, if_false, decide_true, decide_false, Bool.not_true, Bool.not_false, Bool.and_true, Bool.and_false, Bool.true_and, Bool.false_and, List.length_cons, List.length_nil, Nat.zero_add, Nat.reduceAdd, sz_0, sz_1, sz_2, sz_3, sz_4, sz_5, sz_6, sz_7, sz_8, sz_9, sz_10, sz_11, sz_12]
    rw [el, ok_then]
    exact if_pos dd
  simp -implicitDefEqProofs only [K01.b0, eb_cons, es_ret, st, ok_then, eb_nil, eb_cons, es_asg, es_rse, es_tryx, tryK_ok, tryK_xc, tryK_if, xc_then, resF_xc, ev_mkx, ev_isz, ev_isx, isxK_exc, ev_xv, xvK_exc, ev_lm, es_aug, es_ex, es_iff, es_ret, es_retn, es_brk, es_cnt, es_ps, es_st, es_stA, lstI_eq, es_stk, es_stt, ev_tdd, es_skA, es_stl, es_forr, es_whl, ev_int, ev_str, ev_bl, ev_non, ev_v, ev_mv, ev_vz, ev_bw, ev_gl, ev_fz, ev_rd, ev_bin, ev_neg, ev_cmp, ev_chn, ev_an, ev_orr, ev_orv, ev_nt, ev_ite, ev_tup, ev_lst, ev_lss, ev_ix, ev_sl, ev_rev, ev_dlk, ev_fs3, ev_bi, ev_bm, ev_app, ev_mm, ev_pop, ev_popi, popK_int, evl_nil, evl_cons, evq_nil, evq_cons, evq_star, evo_no, evo_so, evc_no, evc_so, evi_val, evi_enu, evi_zip, evi_rng1, evi_rng2, evp_s, evp_ix, call_v1, call_v2, call_v3, call_i0, call_i1, call_i2, call_i3, resF_ok, resI_ok, back_a, back_b, back_c, back_d, ok_then, bad_then, if_then, lift_some, lift_none, lift_if, selB_bl, notK_bl, blK_bl, intK_int, negK_int, rngK_int, rngK2_int, nxK_nx, nxK_rt, nxK_bk, nxK_ct, lstK_lst, plK_lst, plK_dic, ev_dsp, ev_mn4, stK_lst, getP_nil, putP_nil, getS_0f, getS_0p, getS_0b, getS_s, setS_0f, setS_0n, setS_s, putS_0f, putS_0p, putS_s, clrS_0f, clrS_0n, clrS_s, clrA, noX_ok, noX_if, Option.map_some, Option.bind_some, Option.map_none, Option.bind_none, tgt_nm, tgt_tup, tgt_lst, tgts_cons, tgts_nil, scalD, fzn, fznL, if_true, Bool.false_eq_true, if_false, decide_true, decide_false, Bool.not_true, Bool.not_false, Bool.and_true, Bool.and_false, Bool.true_and, Bool.false_and, List.length_cons, List.length_nil, Nat.zero_add, Nat.reduceAdd, sz_0, sz_1, sz_2, sz_3, sz_4, sz_5, sz_6, sz_7, sz_8, sz_9, sz_10, sz_11, sz_12, f1, it, k]
theorem sml {i : Int} (h0 : 0 ≤ i) (h1 : i ≤ 1000000) : bits i < 9000 := by
  have := bits_s (i := i) (k := 20) h0 (Int.lt_of_le_of_lt h1 (by decide)) (by decide)
  omega
end K01

set_option Elab.async false
set_option linter.all false
set_option maxRecDepth 100000
set_option maxHeartbeats 4000000
set_option exponentiation.threshold 20000
namespace K01
open Z
/-! ### numbers of either sign -/
def numZ (i : Int) : Prop := -(10 ^ 40) < i ∧ i < 10 ^ 40
theorem strZ_nat (n : Nat) : strI (n : Int) = TL.numL n := TL.tl_num n
theorem strZ_neg (n : Nat) : strI (Int.negSucc n) = 45 :: TL.numL (n + 1) := by
  unfold strI
  rw [PyProof.Rows.signs_ofString]
  have e : toString (Int.negSucc n) = "-" ++ Nat.repr (n + 1) := rfl
  rw [e, String.toList_append, List.map_append]
  show [45] ++ (Nat.repr (n + 1)).toList.map Char.toNat = _
  rw [Nat.toList_repr]
  rfl
theorem lenZ {i : Int} (h : numZ i) : (strI i).length ≤ 41 := by
  cases i with
  | ofNat n =>
    have h2 : ((n : Nat) : Int) < 10 ^ 40 := h.2
    have : n < 10 ^ 40 := by exact_mod_cast h2
    have := TL.numL_len (k := 40) (by decide) this
    show (strI (n : Int)).length ≤ 41
    rw [strZ_nat]; omega
  | negSucc n =>
    have h1 := h.1
    rw [Int.negSucc_eq] at h1
    have h2 : ((n + 1 : Nat) : Int) < 10 ^ 40 := by
      have : ((n + 1 : Nat) : Int) = (n : Int) + 1 := rfl
      rw [this]; omega
    have : n + 1 < 10 ^ 40 := by exact_mod_cast h2
    have := TL.numL_len (k := 40) (by decide) this
    rw [strZ_neg, List.length_cons]; omega
theorem bitsZ {i : Int} (h : numZ i) : bits i < 1900 := by
  have e : (10 : Int) ^ 40 ≤ 2 ^ 140 := by decide
  have := bits_lt (k := 140) (i := i) (by have := h.1; omega) (Int.lt_of_lt_of_le h.2 e) (by decide)
  omega
theorem fmtZ {i : Int} (h : numZ i) : fmtX (.int i) = true := by
  have h1 := bitsZ h
  have h2 := lenZ h
  simp only [fmtX, decide_eq_true h1, Bool.true_and]
  exact decide_eq_true (by omega)
theorem numZ_of {i k : Int} (h0 : -k ≤ i) (h1 : i ≤ k) (hk : k < 10 ^ 40) : numZ i := ⟨by omega, by omega⟩
/-- what may be held -/
structure Held (d : D) : Prop where
  fz : fzn d = true
  fx : fmtX d = true
  rp : ∃ S, biop .repr [d] = some (.str S)
  nz : frz? d = some d
theorem held_int {i : Int} (h : numZ i) : Held (.int i) := by
  refine ⟨rfl, fmtZ h, ⟨showD (.int i), ?_⟩, rfl⟩
  have h1 := bitsZ h
  simp only [biop, shOk, decide_eq_true h1, flatD, Bool.true_and]
  rw [if_pos (decide_eq_true (by unfold repSz; omega))]
theorem held_non : Held .non := ⟨rfl, rfl, ⟨_, rfl⟩, rfl⟩
theorem held_str {s : List Nat} (h : okS s = true) (hl : s.length ≤ 100) : Held (.str s) := by
  refine ⟨rfl, ?_, ⟨showD (.str s), ?_⟩, rfl⟩
  · simp only [fmtX, h, Bool.true_and]; exact decide_eq_true (by omega)
  · simp only [biop, shOk, flatD, h, Bool.true_and]
    rw [if_pos (decide_eq_true (by unfold repSz; omega))]
theorem held_pair {i j : Int} (h1 : numZ i) (h2 : numZ j) : Held (.tup false [.int i, .int j]) := by
  have a1 := bitsZ h1
  have a2 := bitsZ h2
  have b1 := lenZ h1
  have b2 := lenZ h2
  refine ⟨rfl, ?_, ⟨showD (.tup false [.int i, .int j]), ?_⟩, rfl⟩
  · simp only [fmtX, decide_eq_true a1, decide_eq_true a2, decide_eq_true (show (strI i).length ≤ 1000000 by omega), decide_eq_true (show (strI j).length ≤ 1000000 by omega), Bool.not_false, Bool.and_self]
  · simp only [biop, shOk, shOkL, flatD, flatDL, decide_eq_true a1, decide_eq_true a2, Bool.and_self, Nat.zero_lt_succ, decide_true, show decide (0 < 50) = true from rfl, Bool.true_and]
    rw [if_pos (decide_eq_true (by simp only [repSz, repSzL]; omega))]
/-! ### the exceptions -/
theorem isz_no (phi : Nat → List PM → List D → FRes) (e : Env) : evE phi (.isz [1, 5, 6]) e = .ok (.bl false) e := by
  rw [ev_isz]; rfl
theorem run_made (n : Nat) (w : Nat) (hw : w < 8) (d : D) (h : Held d) : run tbl wf (n + 1) 2 [.val, .val] [.int (w : Nat), d] = .ok (.lst true [.exc (w + 1) d, .exc (w + 1) d]) [none, none] := by
  refine run_rt (F := K01.f2) (e0 := [.fr (.int (w : Nat)), .fr d]) (e1 := [.fr (.int (w : Nat)), .fr d]) rfl rfl rfl ?_ rfl
  have fz := h.fz
  have mk : ∀ c e, mkxK c d e = .ok (.exc c d) e := fun c e => if_pos h.fx
  show evB _ wf K01.b2 [.fr (.int (w : Nat)), .fr d] = _
  have hc : w = 0 ∨ w = 1 ∨ w = 2 ∨ w = 3 ∨ w = 4 ∨ w = 5 ∨ w = 6 ∨ w = 7 := by omega
  have cq : ∀ a b : Int, cmpop .eq (.int a) (.int b) = some (decide (a = b)) := cmp_eqI
  rcases hc with rfl | rfl | rfl | rfl | rfl | rfl | rfl | rfl <;>
    simp -implicitDefEqProofs only [K01.b2, eb_nil, eb_cons, es_asg, es_rse, es_tryx, tryK_ok, tryK_xc, tryK_if, xc_then, resF_xc, ev_mkx, ev_isz, ev_isx, isxK_exc, ev_xv, xvK_exc, ev_lm, es_aug, es_ex, es_iff, es_ret, es_retn, es_brk, es_cnt, es_ps, es_st, es_stA, lstI_eq, es_stk, es_stt, ev_tdd, es_skA, es_stl, es_forr, es_whl, ev_int, ev_str, ev_bl, ev_non, ev_v, ev_mv, ev_vz, ev_bw, ev_gl, ev_fz, ev_rd, ev_bin, ev_neg, ev_cmp, ev_chn, ev_an, ev_orr, ev_orv, ev_nt, ev_ite, ev_tup, ev_lst, ev_lss, ev_ix, ev_sl, ev_rev, ev_dlk, ev_fs3, ev_bi, ev_bm, ev_app, ev_mm, ev_pop, ev_popi, popK_int, evl_nil, evl_cons, evq_nil, evq_cons, evq_star, evo_no, evo_so, evc_no, evc_so, evi_val, evi_enu, evi_zip, evi_rng1, evi_rng2, evp_s, evp_ix, call_v1, call_v2, call_v3, call_i0, call_i1, call_i2, call_i3, resF_ok, resI_ok, back_a, back_b, back_c, back_d, ok_then, bad_then, if_then, lift_some, lift_none, lift_if, selB_bl, notK_bl, blK_bl, intK_int, negK_int, rngK_int, rngK2_int, nxK_nx, nxK_rt, nxK_bk, nxK_ct, lstK_lst, plK_lst, plK_dic, ev_dsp, ev_mn4, stK_lst, getP_nil, putP_nil, getS_0f, getS_0p, getS_0b, getS_s, setS_0f, setS_0n, setS_s, putS_0f, putS_0p, putS_s, clrS_0f, clrS_0n, clrS_s, clrA, noX_ok, noX_if, Option.map_some, Option.bind_some, Option.map_none, Option.bind_none, tgt_nm, tgt_tup, tgt_lst, tgts_cons, tgts_nil, scalD, fzn, fznL, if_true, Bool.false_eq_true, if_false, decide_true, decide_false, Bool.not_true, Bool.not_false, Bool.and_true, Bool.and_false, Bool.true_and, Bool.false_and, List.length_cons, List.length_nil, Nat.zero_add, Nat.reduceAdd, sz_0, sz_1, sz_2, sz_3, sz_4, sz_5, sz_6, sz_7, sz_8, sz_9, sz_10, sz_11, sz_12, fz, mk, cq, show ((0 : Nat) : Int) = 0 from rfl, show ((1 : Nat) : Int) = 1 from rfl, show ((2 : Nat) : Int) = 2 from rfl, show ((3 : Nat) : Int) = 3 from rfl, show ((4 : Nat) : Int) = 4 from rfl,
      show ((5 : Nat) : Int) = 5 from rfl, show ((6 : Nat) : Int) = 6 from rfl, show ((7 : Nat) : Int) = 7 from rfl, show (0 : Int) = 0 ↔ True from by simp, show (1 : Int) = 0 ↔ False from by decide, show (2 : Int) = 0 ↔ False from by decide, show (3 : Int) = 0 ↔ False from by decide, show (4 : Int) = 0 ↔ False from by decide,
      show (5 : Int) = 0 ↔ False from by decide, show (6 : Int) = 0 ↔ False from by decide, show (7 : Int) = 0 ↔ False from by decide, Int.reduceEq, decide_true, decide_false, Nat.reduceAdd]
def flagsD (c : Nat) : List D := [.bl (c == 1), .bl (c == 2), .bl (c == 3), .bl (c == 4), .bl (c == 5), .bl (c == 6), .bl (c == 7), .bl (c == 8)]
theorem run_flags (n : Nat) (c : Nat) (d : D) (h : Held d) : run tbl wf (n + 1) 3 [.val] [.exc c d] = .ok (.lst true (flagsD c)) [none] := by
  have fz : fzn d = true := h.fz
  have sb : ∀ k : Nat, k ≠ 0 → k < 9 → subX c k = (c == k) := fun k h0 h1 => by
    unfold subX
    have a : (k == 100) = false := by simp; omega
    have b : (k == 0) = false := by simp; omega
    rw [a, b]; rfl
  have x1 : ∀ a b c d e f : D, mmop .extend [a, b, c] [.lst true [d, e, f]] = some ([a, b, c, d, e, f], .non) := fun a b c d e f => by
    have h : ([a, b, c] : List D).length + ([d, e, f] : List D).length ≤ sizeL := by simp [sizeL]
    simp only [mmop]; rw [if_pos h]; rfl
  have x2 : ∀ a b c d e f g h : D, mmop .extend [a, b, c, d, e, f] [.lst true [g, h]] = some ([a, b, c, d, e, f, g, h], .non) := fun a b c d e f g h => by
    have z : ([a, b, c, d, e, f] : List D).length + ([g, h] : List D).length ≤ sizeL := by simp [sizeL]
    simp only [mmop]; rw [if_pos z]; rfl
  refine run_rt (F := K01.f3) (e0 := [.fr (.exc c d)]) (e1 := [.fr (.exc c d), .no]) rfl rfl rfl ?_ rfl
  show evB _ wf K01.b3 [.fr (.exc c d), .no] = _
  simp -implicitDefEqProofs only [K01.b3, eb_nil, eb_cons, es_asg, es_rse, es_tryx, tryK_ok, tryK_xc, tryK_if, xc_then, resF_xc, ev_mkx, ev_isz, ev_isx, isxK_exc, ev_xv, xvK_exc, ev_lm, es_aug, es_ex, es_iff, es_ret, es_retn, es_brk, es_cnt, es_ps, es_st, es_stA, lstI_eq, es_stk, es_stt, ev_tdd, es_skA, es_stl, es_forr, es_whl, ev_int, ev_str, ev_bl, ev_non, ev_v, ev_mv, ev_vz, ev_bw, ev_gl, ev_fz, ev_rd, ev_bin, ev_neg, ev_cmp, ev_chn, ev_an, ev_orr, ev_orv, ev_nt, ev_ite, ev_tup, ev_lst, ev_lss, ev_ix, ev_sl, ev_rev, ev_dlk, ev_fs3, ev_bi, ev_bm, ev_app, ev_mm, ev_pop, ev_popi, popK_int, evl_nil, evl_cons, evq_nil, evq_cons, evq_star, evo_no, evo_so, evc_no, evc_so, evi_val, evi_enu, evi_zip, evi_rng1, evi_rng2, evp_s, evp_ix, call_v1, call_v2, call_v3, call_i0, call_i1, call_i2, call_i3, resF_ok, resI_ok, back_a, back_b, back_c, back_d, ok_then, bad_then, if_then, lift_some, lift_none, lift_if, selB_bl, notK_bl, blK_bl, intK_int, negK_int, rngK_int, rngK2_int, nxK_nx, nxK_rt, nxK_bk, nxK_ct, lstK_lst, plK_lst, plK_dic, ev_dsp, ev_mn4, stK_lst, getP_nil, putP_nil, getS_0f, getS_0p, getS_0b, getS_s, setS_0f, setS_0n, setS_s, putS_0f, putS_0p, putS_s, clrS_0f, clrS_0n, clrS_s, clrA, noX_ok, noX_if, Option.map_some, Option.bind_some, Option.map_none, Option.bind_none, tgt_nm, tgt_tup, tgt_lst, tgts_cons, tgts_nil, scalD, fzn, fznL, if_true, Bool.false_eq_true, if_false, decide_true, decide_false, Bool.not_true, Bool.not_false, Bool.and_true, Bool.and_false, Bool.true_and, Bool.false_and, List.length_cons, List.length_nil, Nat.zero_add, Nat.reduceAdd, sz_0, sz_1, sz_2, sz_3, sz_4, sz_5, sz_6, sz_7, sz_8, sz_9, sz_10, sz_11, sz_12, fz, sb 1 (by decide) (by decide), sb 2 (by decide) (by decide), sb 3 (by decide) (by decide), sb 4 (by decide) (by decide), sb 5 (by decide) (by decide), sb 6 (by decide) (by decide), sb 7 (by decide) (by decide), sb 8 (by decide) (by decide), x1, x2, flagsD]
/-! ### the law -/
def envL (S R : D) (x2 x3 x4 x5 x6 x7 : Slot) : Env := [.fr S, .fr R, x2, x3, x4, x5, x6, x7]
theorem eq_flags (w : Nat) (hw : w < 8) : ((List.range 8).map fun k => D.int (0 + (k : Nat))).map (fun d => match d with | .int j => D.bl (decide (j = (w : Int))) | _ => .non) = flagsD (w + 1) := by
  have hc : w = 0 ∨ w = 1 ∨ w = 2 ∨ w = 3 ∨ w = 4 ∨ w = 5 ∨ w = 6 ∨ w = 7 := by omega
  rcases hc with rfl | rfl | rfl | rfl | rfl | rfl | rfl | rfl <;> rfl
theorem in_list (phi : Nat → List PM → List D → FRes) (S R : D) (x2 x3 x5 x6 x7 : Slot) (w : Nat) (hw : w < 8) (h7 : Fs x7) :
    evE phi (.lc [7] (.rng1 (.c (.int 8))) (.nm 7) .no (.cmp .eq (.v 7) (.v 4))) [.fr S, .fr R, x2, x3, .fr (.int (w : Nat)), x5, x6, x7] = .ok (.lst true (flagsD (w + 1))) [.fr S, .fr R, x2, x3, .fr (.int (w : Nat)), x5, x6, .no] := by
  have hrg : rngI 0 8 = some ((List.range 8).map fun k => .int (0 + (k : Nat))) := rfl
  have ei : evI phi (.rng1 (.c (.int 8))) [.fr S, .fr R, x2, x3, .fr (.int (w : Nat)), x5, x6, x7] = .ok ((List.range 8).map fun k => .int (0 + (k : Nat))) [.fr S, .fr R, x2, x3, .fr (.int (w : Nat)), x5, x6, x7] := by
    simp -implicitDefEqProofs only [eb_nil, eb_cons, es_asg, es_rse, es_tryx, tryK_ok, tryK_xc, tryK_if, xc_then, resF_xc, ev_mkx, ev_isz, ev_isx, isxK_exc, ev_xv, xvK_exc, ev_lm, es_aug, es_ex, es_iff, es_ret, es_retn, es_brk, es_cnt, es_ps, es_st, es_stA, lstI_eq, es_stk, es_stt, ev_tdd, es_skA, es_stl, es_forr, es_whl, ev_int, ev_str, ev_bl, ev_non, ev_v, ev_mv, ev_vz, ev_bw, ev_gl, ev_fz, ev_rd, ev_bin, ev_neg, ev_cmp, ev_chn, ev_an, ev_orr, ev_orv, ev_nt, ev_ite, ev_tup, ev_lst, ev_lss, ev_ix, ev_sl, ev_rev, ev_dlk, ev_fs3, ev_bi, ev_bm, ev_app, ev_mm, ev_pop, ev_popi, popK_int, evl_nil, evl_cons, evq_nil, evq_cons, evq_star, evo_no, evo_so, evc_no, evc_so, evi_val, evi_enu, evi_zip, evi_rng1, evi_rng2, evp_s, evp_ix, call_v1, call_v2, call_v3, call_i0, call_i1, call_i2, call_i3, resF_ok, resI_ok, back_a, back_b, back_c, back_d, ok_then, bad_then, if_then, lift_some, lift_none, lift_if, selB_bl, notK_bl, blK_bl, intK_int, negK_int, rngK_int, rngK2_int, nxK_nx, nxK_rt, nxK_bk, nxK_ct, lstK_lst, plK_lst, plK_dic, ev_dsp, ev_mn4, stK_lst, getP_nil, putP_nil, getS_0f, getS_0p, getS_0b, getS_s, setS_0f, setS_0n, setS_s, putS_0f, putS_0p, putS_s, clrS_0f, clrS_0n, clrS_s, clrA, noX_ok, noX_if, Option.map_some, Option.bind_some, Option.map_none, Option.bind_none, tgt_nm, tgt_tup, tgt_lst, tgts_cons, tgts_nil, scalD, fzn, fznL, if_true, Bool.false_eq_true, if_false, decide_true, decide_false, Bool.not_true, Bool.not_false, Bool.and_true, Bool.and_false, Bool.true_and, Bool.false_and, List.length_cons, List.length_nil, Nat.zero_add, Nat.reduceAdd, sz_0, sz_1, sz_2, sz_3, sz_4, sz_5, sz_6, sz_7, sz_8, sz_9, sz_10, sz_11, sz_12, hrg]
  have cl : clrA [.fr S, .fr R, x2, x3, .fr (.int (w : Nat)), x5, x6, x7] [7] = some [.fr S, .fr R, x2, x3, .fr (.int (w : Nat)), x5, x6, .no] := by
    simp -implicitDefEqProofs only [eb_nil, eb_cons, es_asg, es_rse, es_tryx, tryK_ok, tryK_xc, tryK_if, xc_then, resF_xc, ev_mkx, ev_isz, ev_isx, isxK_exc, ev_xv, xvK_exc, ev_lm, es_aug, es_ex, es_iff, es_ret, es_retn, es_brk, es_cnt, es_ps, es_st, es_stA, lstI_eq, es_stk, es_stt, ev_tdd, es_skA, es_stl, es_forr, es_whl, ev_int, ev_str, ev_bl, ev_non, ev_v, ev_mv, ev_vz, ev_bw, ev_gl, ev_fz, ev_rd, ev_bin, ev_neg, ev_cmp, ev_chn, ev_an, ev_orr, ev_orv, ev_nt, ev_ite, ev_tup, ev_lst, ev_lss, ev_ix, ev_sl, ev_rev, ev_dlk, ev_fs3, ev_bi, ev_bm, ev_app, ev_mm, ev_pop, ev_popi, popK_int, evl_nil, evl_cons, evq_nil, evq_cons, evq_star, evo_no, evo_so, evc_no, evc_so, evi_val, evi_enu, evi_zip, evi_rng1, evi_rng2, evp_s, evp_ix, call_v1, call_v2, call_v3, call_i0, call_i1, call_i2, call_i3, resF_ok, resI_ok, back_a, back_b, back_c, back_d, ok_then, bad_then, if_then, lift_some, lift_none, lift_if, selB_bl, notK_bl, blK_bl, intK_int, negK_int, rngK_int, rngK2_int, nxK_nx, nxK_rt, nxK_bk, nxK_ct, lstK_lst, plK_lst, plK_dic, ev_dsp, ev_mn4, stK_lst, getP_nil, putP_nil, getS_0f, getS_0p, getS_0b, getS_s, setS_0f, setS_0n, setS_s, putS_0f, putS_0p, putS_s, clrS_0f, clrS_0n, clrS_s, clrA, noX_ok, noX_if, Option.map_some, Option.bind_some, Option.map_none, Option.bind_none, tgt_nm, tgt_tup, tgt_lst, tgts_cons, tgts_nil, scalD, fzn, fznL, if_true, Bool.false_eq_true, if_false, decide_true, decide_false, Bool.not_true, Bool.not_false, Bool.and_true, Bool.and_false, Bool.true_and, Bool.false_and, List.length_cons, List.length_nil, Nat.zero_add, Nat.reduceAdd, sz_0, sz_1, sz_2, sz_3, sz_4, sz_5, sz_6, sz_7, sz_8, sz_9, sz_10, sz_11, sz_12, clrS_0 h7]
  rw [ev_lc, ei, ok_then, if_pos (by simp [sizeL]), cl, lift_some, ok_then, loopC_map (g := fun d => match d with | .int j => D.bl (decide (j = (w : Int))) | _ => .non) (fun x hx => ?_), ok_then, eq_flags w hw]
  obtain ⟨k, _, rfl⟩ := List.mem_map.mp hx
  have cq : cmpop .eq (.int (0 + (k : Nat))) (.int (w : Nat)) = some (decide ((0 + (k : Nat) : Int) = (w : Nat))) := cmp_eqI _ _
  simp -implicitDefEqProofs only [eb_nil, eb_cons, es_asg, es_rse, es_tryx, tryK_ok, tryK_xc, tryK_if, xc_then, resF_xc, ev_mkx, ev_isz, ev_isx, isxK_exc, ev_xv, xvK_exc, ev_lm, es_aug, es_ex, es_iff, es_ret, es_retn, es_brk, es_cnt, es_ps, es_st, es_stA, lstI_eq, es_stk, es_stt, ev_tdd, es_skA, es_stl, es_forr, es_whl, ev_int, ev_str, ev_bl, ev_non, ev_v, ev_mv, ev_vz, ev_bw, ev_gl, ev_fz, ev_rd, ev_bin, ev_neg, ev_cmp, ev_chn, ev_an, ev_orr, ev_orv, ev_nt, ev_ite, ev_tup, ev_lst, ev_lss, ev_ix, ev_sl, ev_rev, ev_dlk, ev_fs3, ev_bi, ev_bm, ev_app, ev_mm, ev_pop, ev_popi, popK_int, evl_nil, evl_cons, evq_nil, evq_cons, evq_star, evo_no, evo_so, evc_no, evc_so, evi_val, evi_enu, evi_zip, evi_rng1, evi_rng2, evp_s, evp_ix, call_v1, call_v2, call_v3, call_i0, call_i1, call_i2, call_i3, resF_ok, resI_ok, back_a, back_b, back_c, back_d, ok_then, bad_then, if_then, lift_some, lift_none, lift_if, selB_bl, notK_bl, blK_bl, intK_int, negK_int, rngK_int, rngK2_int, nxK_nx, nxK_rt, nxK_bk, nxK_ct, lstK_lst, plK_lst, plK_dic, ev_dsp, ev_mn4, stK_lst, getP_nil, putP_nil, getS_0f, getS_0p, getS_0b, getS_s, setS_0f, setS_0n, setS_s, putS_0f, putS_0p, putS_s, clrS_0f, clrS_0n, clrS_s, clrA, noX_ok, noX_if, Option.map_some, Option.bind_some, Option.map_none, Option.bind_none, tgt_nm, tgt_tup, tgt_lst, tgts_cons, tgts_nil, scalD, fzn, fznL, if_true, Bool.false_eq_true, if_false, decide_true, decide_false, Bool.not_true, Bool.not_false, Bool.and_true, Bool.and_false, Bool.true_and, Bool.false_and, List.length_cons, List.length_nil, Nat.zero_add, Nat.reduceAdd, sz_0, sz_1, sz_2, sz_3, sz_4, sz_5, sz_6, sz_7, sz_8, sz_9, sz_10, sz_11, sz_12, cq]
theorem in_turn (n : Nat) (S R : D) (x2 x3 x7 : Slot) (w : Nat) (hw : w < 8) (d : D) (hd : Held d) (h7 : Fs x7) :
    evB (run tbl wf (n + 1)) wf K01.b4_3 [.fr S, .fr R, x2, x3, .fr (.int (w : Nat)), .fr d, .fr (.exc (w + 1) d), x7] = .ok .nx [.fr S, .fr R, x2, x3, .fr (.int (w : Nat)), .fr d, .fr (.exc (w + 1) d), .no] := by
  have fz := hd.fz
  obtain ⟨SS, rp⟩ := hd.rp
  have fl := run_flags n (w + 1) d hd
  have cs : cmpop .ne (.str SS) (.str SS) = some false := by simp [cmpop, scalD, eqB]
  have s0 : subX (w + 1) 0 = true := by unfold subX; simp
  have s1 : subX (w + 1) 100 = true := by unfold subX; simp
  have cl := in_list (run tbl wf (n + 1)) S R x2 x3 (.fr d) (.fr (.exc (w + 1) d)) x7 w hw h7
  have cf : cmpop .ne (.lst true (flagsD (w + 1))) (.lst true (flagsD (w + 1))) = some false := by
    have hc : w = 0 ∨ w = 1 ∨ w = 2 ∨ w = 3 ∨ w = 4 ∨ w = 5 ∨ w = 6 ∨ w = 7 := by omega
    rcases hc with rfl | rfl | rfl | rfl | rfl | rfl | rfl | rfl <;> rfl
  generalize flagsD (w + 1) = W at fl cl cf
  simp -implicitDefEqProofs only [K01.b4_3, eb_nil, eb_cons, es_asg, es_rse, es_tryx, tryK_ok, tryK_xc, tryK_if, xc_then, resF_xc, ev_mkx, ev_isz, ev_isx, isxK_exc, ev_xv, xvK_exc, ev_lm, es_aug, es_ex, es_iff, es_ret, es_retn, es_brk, es_cnt, es_ps, es_st, es_stA, lstI_eq, es_stk, es_stt, ev_tdd, es_skA, es_stl, es_forr, es_whl, ev_int, ev_str, ev_bl, ev_non, ev_v, ev_mv, ev_vz, ev_bw, ev_gl, ev_fz, ev_rd, ev_bin, ev_neg, ev_cmp, ev_chn, ev_an, ev_orr, ev_orv, ev_nt, ev_ite, ev_tup, ev_lst, ev_lss, ev_ix, ev_sl, ev_rev, ev_dlk, ev_fs3, ev_bi, ev_bm, ev_app, ev_mm, ev_pop, ev_popi, popK_int, evl_nil, evl_cons, evq_nil, evq_cons, evq_star, evo_no, evo_so, evc_no, evc_so, evi_val, evi_enu, evi_zip, evi_rng1, evi_rng2, evp_s, evp_ix, call_v1, call_v2, call_v3, call_i0, call_i1, call_i2, call_i3, resF_ok, resI_ok, back_a, back_b, back_c, back_d, ok_then, bad_then, if_then, lift_some, lift_none, lift_if, selB_bl, notK_bl, blK_bl, intK_int, negK_int, rngK_int, rngK2_int, nxK_nx, nxK_rt, nxK_bk, nxK_ct, lstK_lst, plK_lst, plK_dic, ev_dsp, ev_mn4, stK_lst, getP_nil, putP_nil, getS_0f, getS_0p, getS_0b, getS_s, setS_0f, setS_0n, setS_s, putS_0f, putS_0p, putS_s, clrS_0f, clrS_0n, clrS_s, clrA, noX_ok, noX_if, Option.map_some, Option.bind_some, Option.map_none, Option.bind_none, tgt_nm, tgt_tup, tgt_lst, tgts_cons, tgts_nil, scalD, fzn, fznL, if_true, Bool.false_eq_true, if_false, decide_true, decide_false, Bool.not_true, Bool.not_false, Bool.and_true, Bool.and_false, Bool.true_and, Bool.false_and, List.length_cons, List.length_nil, Nat.zero_add, Nat.reduceAdd, sz_0, sz_1, sz_2, sz_3, sz_4, sz_5, sz_6, sz_7, sz_8, sz_9, sz_10, sz_11, sz_12, fz, fl, cl, cf, rp, cs, s0, s1]
theorem in_loop (n : Nat) (S R : D) (x2 x3 : Slot) (w : Nat) (hw : w < 8) (d : D) (hd : Held d) (x6 x7 : Slot) (h6 : Fs x6) (h7 : Fs x7) :
    loopF (fun d e => (lift (tgt (.nm 6) d e) e).andThen fun e _ => evB (run tbl wf (n + 1)) wf K01.b4_3 e) [.exc (w + 1) d, .exc (w + 1) d] [.fr S, .fr R, x2, x3, .fr (.int (w : Nat)), .fr d, x6, x7] = .ok .nx [.fr S, .fr R, x2, x3, .fr (.int (w : Nat)), .fr d, .fr (.exc (w + 1) d), .no] := by
  have t1 := in_turn n S R x2 x3 x7 w hw d hd h7
  have t2 := in_turn n S R x2 x3 .no w hw d hd .no
  have st : ∀ x6 x7, Fs x6 → tgt (.nm 6) (.exc (w + 1) d) [.fr S, .fr R, x2, x3, .fr (.int (w : Nat)), .fr d, x6, x7] = some [.fr S, .fr R, x2, x3, .fr (.int (w : Nat)), .fr d, .fr (.exc (w + 1) d), x7] := fun x6 x7 h => by
    simp -implicitDefEqProofs only [eb_nil, eb_cons, es_asg, es_rse, es_tryx, tryK_ok, tryK_xc, tryK_if, xc_then, resF_xc, ev_mkx, ev_isz, ev_isx, isxK_exc, ev_xv, xvK_exc, ev_lm, es_aug, es_ex, es_iff, es_ret, es_retn, es_brk, es_cnt, es_ps, es_st, es_stA, lstI_eq, es_stk, es_stt, ev_tdd, es_skA, es_stl, es_forr, es_whl, ev_int, ev_str, ev_bl, ev_non, ev_v, ev_mv, ev_vz, ev_bw, ev_gl, ev_fz, ev_rd, ev_bin, ev_neg, ev_cmp, ev_chn, ev_an, ev_orr, ev_orv, ev_nt, ev_ite, ev_tup, ev_lst, ev_lss, ev_ix, ev_sl, ev_rev, ev_dlk, ev_fs3, ev_bi, ev_bm, ev_app, ev_mm, ev_pop, ev_popi, popK_int, evl_nil, evl_cons, evq_nil, evq_cons, evq_star, evo_no, evo_so, evc_no, evc_so, evi_val, evi_enu, evi_zip, evi_rng1, evi_rng2, evp_s, evp_ix, call_v1, call_v2, call_v3, call_i0, call_i1, call_i2, call_i3, resF_ok, resI_ok, back_a, back_b, back_c, back_d, ok_then, bad_then, if_then, lift_some, lift_none, lift_if, selB_bl, notK_bl, blK_bl, intK_int, negK_int, rngK_int, rngK2_int, nxK_nx, nxK_rt, nxK_bk, nxK_ct, lstK_lst, plK_lst, plK_dic, ev_dsp, ev_mn4, stK_lst, getP_nil, putP_nil, getS_0f, getS_0p, getS_0b, getS_s, setS_0f, setS_0n, setS_s, putS_0f, putS_0p, putS_s, clrS_0f, clrS_0n, clrS_s, clrA, noX_ok, noX_if, Option.map_some, Option.bind_some, Option.map_none, Option.bind_none, tgt_nm, tgt_tup, tgt_lst, tgts_cons, tgts_nil, scalD, fzn, fznL, if_true, Bool.false_eq_true, if_false, decide_true, decide_false, Bool.not_true, Bool.not_false, Bool.and_true, Bool.and_false, Bool.true_and, Bool.false_and, List.length_cons, List.length_nil, Nat.zero_add, Nat.reduceAdd, sz_0, sz_1, sz_2, sz_3, sz_4, sz_5, sz_6, sz_7, sz_8, sz_9, sz_10, sz_11, sz_12, setS_0 h]
  rw [loopF, st _ _ h6, lift_some, ok_then, t1, ok_then]
  simp only []
  rw [loopF, st _ _ .fr, lift_some, ok_then, t2, ok_then]
  rfl
def HeldL (l : List D) : Prop := l.length = 7 ∧ ∀ d ∈ l, Held d
theorem w_turn (n k : Nat) (S R : D) (x2 : Slot) (vs : List D) (hv : HeldL vs) (w : Nat) (hw : w < 8) (x5 x6 x7 : Slot) (h5 : Fs x5) (h6 : Fs x6) (h7 : Fs x7) (hr : Bag k R) (hk : k ≤ 800000) :
    ∃ R' y5 y6 y7, Fs y5 ∧ Fs y6 ∧ Fs y7 ∧ Bag (k + 1) R' ∧ evB (run tbl wf (n + 1)) wf K01.b4_2 [.fr S, .fr R, x2, .fr (.lst false vs), .fr (.int (w : Nat)), x5, x6, x7] = .ok .nx [.fr S, .fr R', x2, .fr (.lst false vs), .fr (.int (w : Nat)), y5, y6, y7] := by
  obtain ⟨a, R1, e1, a0, a1, r1⟩ := run_draw n k R 7 hr (by omega) (by decide) (by decide +kernel)
  obtain ⟨j, rfl⟩ := Int.eq_ofNat_of_zero_le a0
  have hj : j < vs.length := by rw [hv.1]; omega
  have hd : Held vs[j] := hv.2 _ (List.getElem_mem hj)
  have ix : ixD (.lst false vs) (.int (j : Nat)) = some vs[j] := by
    simp only [ixD, ixP]
    rw [if_pos (by omega), if_pos (by omega)]
    simp [hj]
  generalize vs[j] = d at hd ix
  have ll : biop .len [.lst false vs] = some (.int 7) := by simp [biop, hv.1]
  have fv : fznL vs = true := by
    have : ∀ l : List D, (∀ d ∈ l, Held d) → fznL l = true := fun l => by
      induction l with
      | nil => intro _; rfl
      | cons x l ih => intro h; simp only [fznL, (h x (List.mem_cons_self ..)).fz, ih fun y hy => h y (List.mem_cons_of_mem _ hy), Bool.and_self]
    exact this vs hv.2
  have mk := run_made n w hw d hd
  have fz := hd.fz
  have fm : frz? (.lst true [.exc (w + 1) d, .exc (w + 1) d]) = some (.lst false [.exc (w + 1) d, .exc (w + 1) d]) := by
    simp only [frz?, canF, canFL, fz, Bool.and_self, if_true, frz, frzL]
  have it : itemsOf (.lst false [.exc (w + 1) d, .exc (w + 1) d]) = some [.exc (w + 1) d, .exc (w + 1) d] := by
    unfold itemsOf frz?
    simp only [canF, canFL, fz, Bool.and_self, if_true, frz, frzL]
  refine ⟨R1, .fr d, .fr (.exc (w + 1) d), .no, .fr, .fr, .no, r1, ?_⟩
  have lp := in_loop n S R1 x2 (.fr (.lst false vs)) w hw d hd x6 x7 h6 h7
  simp -implicitDefEqProofs only [K01.b4_2, eb_nil, eb_cons, es_asg, es_rse, es_tryx, tryK_ok, tryK_xc, tryK_if, xc_then, resF_xc, ev_mkx, ev_isz, ev_isx, isxK_exc, ev_xv, xvK_exc, ev_lm, es_aug, es_ex, es_iff, es_ret, es_retn, es_brk, es_cnt, es_ps, es_st, es_stA, lstI_eq, es_stk, es_stt, ev_tdd, es_skA, es_stl, es_forr, es_whl, ev_int, ev_str, ev_bl, ev_non, ev_v, ev_mv, ev_vz, ev_bw, ev_gl, ev_fz, ev_rd, ev_bin, ev_neg, ev_cmp, ev_chn, ev_an, ev_orr, ev_orv, ev_nt, ev_ite, ev_tup, ev_lst, ev_lss, ev_ix, ev_sl, ev_rev, ev_dlk, ev_fs3, ev_bi, ev_bm, ev_app, ev_mm, ev_pop, ev_popi, popK_int, evl_nil, evl_cons, evq_nil, evq_cons, evq_star, evo_no, evo_so, evc_no, evc_so, evi_val, evi_enu, evi_zip, evi_rng1, evi_rng2, evp_s, evp_ix, call_v1, call_v2, call_v3, call_i0, call_i1, call_i2, call_i3, resF_ok, resI_ok, back_a, back_b, back_c, back_d, ok_then, bad_then, if_then, lift_some, lift_none, lift_if, selB_bl, notK_bl, blK_bl, intK_int, negK_int, rngK_int, rngK2_int, nxK_nx, nxK_rt, nxK_bk, nxK_ct, lstK_lst, plK_lst, plK_dic, ev_dsp, ev_mn4, stK_lst, getP_nil, putP_nil, getS_0f, getS_0p, getS_0b, getS_s, setS_0f, setS_0n, setS_s, putS_0f, putS_0p, putS_s, clrS_0f, clrS_0n, clrS_s, clrA, noX_ok, noX_if, Option.map_some, Option.bind_some, Option.map_none, Option.bind_none, tgt_nm, tgt_tup, tgt_lst, tgts_cons, tgts_nil, scalD, fzn, fznL, if_true, Bool.false_eq_true, if_false, decide_true, decide_false, Bool.not_true, Bool.not_false, Bool.and_true, Bool.and_false, Bool.true_and, Bool.false_and, List.length_cons, List.length_nil, Nat.zero_add, Nat.reduceAdd, sz_0, sz_1, sz_2, sz_3, sz_4, sz_5, sz_6, sz_7, sz_8, sz_9, sz_10, sz_11, sz_12, fv, ll, e1, ix, setS_0 h5, fz, mk, fm, it, lp]
theorem w_loop (n : Nat) (S : D) (x2 : Slot) (vs : List D) (hv : HeldL vs) : ∀ (ws : List Nat) (k : Nat) (R : D) (x4 x5 x6 x7 : Slot), (∀ w ∈ ws, w < 8) → Fs x4 → Fs x5 → Fs x6 → Fs x7 → Bag k R → k + ws.length ≤ 800000 →
    ∃ R' y4 y5 y6 y7, Fs y4 ∧ Fs y5 ∧ Fs y6 ∧ Fs y7 ∧ Bag (k + ws.length) R' ∧ loopF (fun d e => (lift (tgt (.nm 4) d e) e).andThen fun e _ => evB (run tbl wf (n + 1)) wf K01.b4_2 e) (ws.map fun w => .int (w : Nat)) [.fr S, .fr R, x2, .fr (.lst false vs), x4, x5, x6, x7] = .ok .nx [.fr S, .fr R', x2, .fr (.lst false vs), y4, y5, y6, y7]
  | [], k, R, x4, x5, x6, x7, _, h4, h5, h6, h7, hr, _ => ⟨R, x4, x5, x6, x7, h4, h5, h6, h7, hr, rfl⟩
  | w :: ws, k, R, x4, x5, x6, x7, hw, h4, h5, h6, h7, hr, hk => by
    simp only [List.length_cons] at hk
    obtain ⟨R1, y5, y6, y7, u5, u6, u7, r1, e1⟩ := w_turn n k S R x2 vs hv w (hw w (List.mem_cons_self ..)) x5 x6 x7 h5 h6 h7 hr (by omega)
    obtain ⟨R', z4, z5, z6, z7, v4, v5, v6, v7, r2, ih⟩ := w_loop n S x2 vs hv ws (k + 1) R1 (.fr (.int (w : Nat))) y5 y6 y7 (fun q hq => hw q (List.mem_cons_of_mem _ hq)) .fr u5 u6 u7 r1 (by omega)
    refine ⟨R', z4, z5, z6, z7, v4, v5, v6, v7, r2.up (by simp only [List.length_cons]; omega), ?_⟩
    have st : tgt (.nm 4) (.int (w : Nat)) [.fr S, .fr R, x2, .fr (.lst false vs), x4, x5, x6, x7] = some [.fr S, .fr R, x2, .fr (.lst false vs), .fr (.int (w : Nat)), x5, x6, x7] := by
      simp -implicitDefEqProofs only [eb_nil, eb_cons, es_asg, es_rse, es_tryx, tryK_ok, tryK_xc, tryK_if, xc_then, resF_xc, ev_mkx, ev_isz, ev_isx, isxK_exc, ev_xv, xvK_exc, ev_lm, es_aug, es_ex, es_iff, es_ret, es_retn, es_brk, es_cnt, es_ps, es_st, es_stA, lstI_eq, es_stk, es_stt, ev_tdd, es_skA, es_stl, es_forr, es_whl, ev_int, ev_str, ev_bl, ev_non, ev_v, ev_mv, ev_vz, ev_bw, ev_gl, ev_fz, ev_rd, ev_bin, ev_neg, ev_cmp, ev_chn, ev_an, ev_orr, ev_orv, ev_nt, ev_ite, ev_tup, ev_lst, ev_lss, ev_ix, ev_sl, ev_rev, ev_dlk, ev_fs3, ev_bi, ev_bm, ev_app, ev_mm, ev_pop, ev_popi, popK_int, evl_nil, evl_cons, evq_nil, evq_cons, evq_star, evo_no, evo_so, evc_no, evc_so, evi_val, evi_enu, evi_zip, evi_rng1, evi_rng2, evp_s, evp_ix, call_v1, call_v2, call_v3, call_i0, call_i1, call_i2, call_i3, resF_ok, resI_ok, back_a, back_b, back_c, back_d, ok_then, bad_then, if_then, lift_some, lift_none, lift_if, selB_bl, notK_bl, blK_bl, intK_int, negK_int, rngK_int, rngK2_int, nxK_nx, nxK_rt, nxK_bk, nxK_ct, lstK_lst, plK_lst, plK_dic, ev_dsp, ev_mn4, stK_lst, getP_nil, putP_nil, getS_0f, getS_0p, getS_0b, getS_s, setS_0f, setS_0n, setS_s, putS_0f, putS_0p, putS_s, clrS_0f, clrS_0n, clrS_s, clrA, noX_ok, noX_if, Option.map_some, Option.bind_some, Option.map_none, Option.bind_none, tgt_nm, tgt_tup, tgt_lst, tgts_cons, tgts_nil, scalD, fzn, fznL, if_true, Bool.false_eq_true, if_false, decide_true, decide_false, Bool.not_true, Bool.not_false, Bool.and_true, Bool.and_false, Bool.true_and, Bool.false_and, List.length_cons, List.length_nil, Nat.zero_add, Nat.reduceAdd, sz_0, sz_1, sz_2, sz_3, sz_4, sz_5, sz_6, sz_7, sz_8, sz_9, sz_10, sz_11, sz_12, setS_0 h4]
    rw [List.map_cons, ← ih, loopF, st, lift_some, ok_then, e1]
    rfl
theorem rng8 : rngI 0 8 = some ((List.range 8).map fun k => .int (k : Nat)) := rfl
theorem law_turn (n k : Nat) (S R : D) (x2 x3 x4 x5 x6 x7 : Slot) (h3 : Fs x3) (h4 : Fs x4) (h5 : Fs x5) (h6 : Fs x6) (h7 : Fs x7) (hr : Bag k R) (hk : k ≤ 700000) :
    ∃ R' y3 y4 y5 y6 y7, Fs y3 ∧ Fs y4 ∧ Fs y5 ∧ Fs y6 ∧ Fs y7 ∧ Bag (k + 11) R' ∧ evB (run tbl wf (n + 1)) wf K01.b4_1 (envL S R x2 x3 x4 x5 x6 x7) = .ok .nx (envL S R' x2 y3 y4 y5 y6 y7) := by
  have pw : ∀ j : Nat, j ≤ 100 → binop .pow (.int 10) (.int (j : Nat)) = some (.int (10 ^ j)) := fun j hj => by
    have b : bits 10 = 3 := by decide +kernel
    simp only [binop, b]
    rw [if_pos ⟨by omega, by omega⟩, Int.toNat_natCast]
  have p15 : binop .pow (.int 10) (.int 15) = some (.int (10 ^ 15)) := pw 15 (by decide)
  have p29 : binop .pow (.int 10) (.int 29) = some (.int (10 ^ 29)) := pw 29 (by decide)
  obtain ⟨a, R1, e1, a0, a1, r1⟩ := run_draw n k R 99 hr (by omega) (by decide) (by decide +kernel)
  obtain ⟨b, R2, e2, b0, b1, r2⟩ := run_draw n (k + 1) R1 (10 ^ 15) r1 (by omega) (by decide) (by decide +kernel)
  obtain ⟨c, R3, e3, c0, c1, r3⟩ := run_draw n (k + 2) R2 9 r2 (by omega) (by decide) (by decide +kernel)
  have hp : numZ (10 ^ 29) := ⟨by decide, by decide⟩
  have hb : numZ (0 - b) := numZ_of (k := 10 ^ 15) (by omega) (by omega) (by decide)
  have hv : HeldL [.non, .int a, .int (0 - b), .int (10 ^ 29), .tup false [.int c, .int (-1)], .str [65, 45, 66], .str []] := by
    refine ⟨rfl, fun d hd => ?_⟩
    simp only [List.mem_cons, List.not_mem_nil, or_false] at hd
    rcases hd with rfl | rfl | rfl | rfl | rfl | rfl | rfl
    · exact held_non
    · exact held_int (numZ_of (k := 99) (by omega) (by omega) (by decide))
    · exact held_int hb
    · exact held_int hp
    · exact held_pair (numZ_of (k := 9) (by omega) (by omega) (by decide)) ⟨by decide, by decide⟩
    · exact held_str rfl (by decide)
    · exact held_str rfl (by decide)
  have fi : ∀ i, frz? (.int i) = some (.int i) := fun _ => rfl
  have ft : frz? (.tup true [.int c, .int (-1)]) = some (.tup false [.int c, .int (-1)]) := rfl
  have fL : ∀ v3 : D, frz? (.lst true [.non, .int a, .int (0 - b), v3, .tup false [.int c, .int (-1)], .str [65, 45, 66], .str []]) = (if canF v3 = true then some (.lst false [.non, .int a, .int (0 - b), frz v3, .tup false [.int c, .int (-1)], .str [65, 45, 66], .str []]) else none) := fun v3 => by
    simp only [frz?, canF, canFL, Bool.true_and, Bool.and_true, frz, frzL]
  clear hb hp pw b1
  generalize (10 : Int) ^ 29 = T at *
  generalize (10 : Int) ^ 15 = U at *
  have fT : frz? (.lst true [.non, .int a, .int (0 - b), .int T, .tup false [.int c, .int (-1)], .str [65, 45, 66], .str []]) = some (.lst false [.non, .int a, .int (0 - b), .int T, .tup false [.int c, .int (-1)], .str [65, 45, 66], .str []]) := fL (.int T)
  obtain ⟨R4, y4, y5, y6, y7, u4, u5, u6, u7, r4, lp⟩ := w_loop n S x2 _ hv (List.range 8) (k + 3) R3 x4 x5 x6 x7 (fun w hw => List.mem_range.mp hw) h4 h5 h6 h7 r3 (by simp; omega)
  refine ⟨R4, .fr (.lst false [.non, .int a, .int (0 - b), .int T, .tup false [.int c, .int (-1)], .str [65, 45, 66], .str []]), y4, y5, y6, y7, .fr, u4, u5, u6, u7, r4.up (by simp), ?_⟩
  unfold envL
  simp -implicitDefEqProofs only [K01.b4_1, eb_nil, eb_cons, es_asg, es_rse, es_tryx, tryK_ok, tryK_xc, tryK_if, xc_then, resF_xc, ev_mkx, ev_isz, ev_isx, isxK_exc, ev_xv, xvK_exc, ev_lm, es_aug, es_ex, es_iff, es_ret, es_retn, es_brk, es_cnt, es_ps, es_st, es_stA, lstI_eq, es_stk, es_stt, ev_tdd, es_skA, es_stl, es_forr, es_whl, ev_int, ev_str, ev_bl, ev_non, ev_v, ev_mv, ev_vz, ev_bw, ev_gl, ev_fz, ev_rd, ev_bin, ev_neg, ev_cmp, ev_chn, ev_an, ev_orr, ev_orv, ev_nt, ev_ite, ev_tup, ev_lst, ev_lss, ev_ix, ev_sl, ev_rev, ev_dlk, ev_fs3, ev_bi, ev_bm, ev_app, ev_mm, ev_pop, ev_popi, popK_int, evl_nil, evl_cons, evq_nil, evq_cons, evq_star, evo_no, evo_so, evc_no, evc_so, evi_val, evi_enu, evi_zip, evi_rng1, evi_rng2, evp_s, evp_ix, call_v1, call_v2, call_v3, call_i0, call_i1, call_i2, call_i3, resF_ok, resI_ok, back_a, back_b, back_c, back_d, ok_then, bad_then, if_then, lift_some, lift_none, lift_if, selB_bl, notK_bl, blK_bl, intK_int, negK_int, rngK_int, rngK2_int, nxK_nx, nxK_rt, nxK_bk, nxK_ct, lstK_lst, plK_lst, plK_dic, ev_dsp, ev_mn4, stK_lst, getP_nil, putP_nil, getS_0f, getS_0p, getS_0b, getS_s, setS_0f, setS_0n, setS_s, putS_0f, putS_0p, putS_s, clrS_0f, clrS_0n, clrS_s, clrA, noX_ok, noX_if, Option.map_some, Option.bind_some, Option.map_none, Option.bind_none, tgt_nm, tgt_tup, tgt_lst, tgts_cons, tgts_nil, scalD, fzn, fznL, if_true, Bool.false_eq_true, if_false, decide_true, decide_false, Bool.not_true, Bool.not_false, Bool.and_true, Bool.and_false, Bool.true_and, Bool.false_and, List.length_cons, List.length_nil, Nat.zero_add, Nat.reduceAdd, sz_0, sz_1, sz_2, sz_3, sz_4, sz_5, sz_6, sz_7, sz_8, sz_9, sz_10, sz_11, sz_12, e1, fi, p15, e2, sub_of, p29, e3, ft, fT, setS_0 h3, rng8, lp]
theorem l_loop (n : Nat) (S : D) : ∀ (ts : List D) (k : Nat) (R : D) (x2 x3 x4 x5 x6 x7 : Slot), Fs x2 → Fs x3 → Fs x4 → Fs x5 → Fs x6 → Fs x7 → Bag k R → k + 11 * ts.length ≤ 700000 →
    ∃ R' y2 y3 y4 y5 y6 y7, loopF (fun d e => (lift (tgt (.nm 2) d e) e).andThen fun e _ => evB (run tbl wf (n + 1)) wf K01.b4_1 e) ts (envL S R x2 x3 x4 x5 x6 x7) = .ok .nx (envL S R' y2 y3 y4 y5 y6 y7)
  | [], k, R, x2, x3, x4, x5, x6, x7, _, _, _, _, _, _, _, _ => ⟨R, x2, x3, x4, x5, x6, x7, rfl⟩
  | t :: ts, k, R, x2, x3, x4, x5, x6, x7, h2, h3, h4, h5, h6, h7, hr, hk => by
    simp only [List.length_cons] at hk
    obtain ⟨R1, y3, y4, y5, y6, y7, u3, u4, u5, u6, u7, r1, e1⟩ := law_turn n k S R (.fr t) x3 x4 x5 x6 x7 h3 h4 h5 h6 h7 hr (by omega)
    obtain ⟨R', z2, z3, z4, z5, z6, z7, ih⟩ := l_loop n S ts (k + 11) R1 (.fr t) y3 y4 y5 y6 y7 .fr u3 u4 u5 u6 u7 r1 (by omega)
    refine ⟨R', z2, z3, z4, z5, z6, z7, ?_⟩
    have st : tgt (.nm 2) t (envL S R x2 x3 x4 x5 x6 x7) = some (envL S R (.fr t) x3 x4 x5 x6 x7) := by
      unfold envL
      simp -implicitDefEqProofs only [eb_nil, eb_cons, es_asg, es_rse, es_tryx, tryK_ok, tryK_xc, tryK_if, xc_then, resF_xc, ev_mkx, ev_isz, ev_isx, isxK_exc, ev_xv, xvK_exc, ev_lm, es_aug, es_ex, es_iff, es_ret, es_retn, es_brk, es_cnt, es_ps, es_st, es_stA, lstI_eq, es_stk, es_stt, ev_tdd, es_skA, es_stl, es_forr, es_whl, ev_int, ev_str, ev_bl, ev_non, ev_v, ev_mv, ev_vz, ev_bw, ev_gl, ev_fz, ev_rd, ev_bin, ev_neg, ev_cmp, ev_chn, ev_an, ev_orr, ev_orv, ev_nt, ev_ite, ev_tup, ev_lst, ev_lss, ev_ix, ev_sl, ev_rev, ev_dlk, ev_fs3, ev_bi, ev_bm, ev_app, ev_mm, ev_pop, ev_popi, popK_int, evl_nil, evl_cons, evq_nil, evq_cons, evq_star, evo_no, evo_so, evc_no, evc_so, evi_val, evi_enu, evi_zip, evi_rng1, evi_rng2, evp_s, evp_ix, call_v1, call_v2, call_v3, call_i0, call_i1, call_i2, call_i3, resF_ok, resI_ok, back_a, back_b, back_c, back_d, ok_then, bad_then, if_then, lift_some, lift_none, lift_if, selB_bl, notK_bl, blK_bl, intK_int, negK_int, rngK_int, rngK2_int, nxK_nx, nxK_rt, nxK_bk, nxK_ct, lstK_lst, plK_lst, plK_dic, ev_dsp, ev_mn4, stK_lst, getP_nil, putP_nil, getS_0f, getS_0p, getS_0b, getS_s, setS_0f, setS_0n, setS_s, putS_0f, putS_0p, putS_s, clrS_0f, clrS_0n, clrS_s, clrA, noX_ok, noX_if, Option.map_some, Option.bind_some, Option.map_none, Option.bind_none, tgt_nm, tgt_tup, tgt_lst, tgts_cons, tgts_nil, scalD, fzn, fznL, if_true, Bool.false_eq_true, if_false, decide_true, decide_false, Bool.not_true, Bool.not_false, Bool.and_true, Bool.and_false, Bool.true_and, Bool.false_and, List.length_cons, List.length_nil, Nat.zero_add, Nat.reduceAdd, sz_0, sz_1, sz_2, sz_3, sz_4, sz_5, sz_6, sz_7, sz_8, sz_9, sz_10, sz_11, sz_12, setS_0 h2]
    rw [← ih, loopF, st, lift_some, ok_then, e1]
    rfl
theorem law_true (ns : List Int) (h : ns.length ≤ 63) : ∃ os, lawRun ns = .ok (.bl true) os := by
  have ll : biop .len [.lst false (ns.map D.int)] = some (.int (ns.length : Nat)) := by simp [biop]
  obtain ⟨m, mn, m0, m1⟩ : ∃ m : Int, biop .min2 [.int 8, .int (ns.length : Nat)] = some (.int m) ∧ 0 ≤ m ∧ m ≤ 8 := by
    refine ⟨if ((ns.length : Nat) : Int) < 8 then ((ns.length : Nat) : Int) else 8, rfl, ?_, ?_⟩ <;> split <;> omega
  have hrg : rngI 0 (4 + m) = some ((List.range (4 + m).toNat).map fun k => .int (0 + (k : Nat))) := by
    unfold rngI
    rw [if_pos (by omega), Int.sub_zero]
  obtain ⟨R, eb, r0⟩ := run_bag (lev - 2) ns h
  obtain ⟨R', y2, y3, y4, y5, y6, y7, hl⟩ := l_loop (lev - 2) (.lst false (ns.map D.int)) ((List.range (4 + m).toNat).map fun k => .int (0 + (k : Nat))) 0 R .no .no .no .no .no .no .no .no .no .no .no .no r0 (by simp; omega)
  have f1 : fznL (ns.map D.int) = true := (ints_frz ns).2.2
  refine ⟨[none], ?_⟩
  show run tbl wf (lev - 1 + 1) 4 [.val] [D.lst false (ns.map D.int)] = _
  refine run_rt (F := K01.f4) (e0 := [.fr (.lst false (ns.map D.int))]) (e1 := envL (.lst false (ns.map D.int)) R' y2 y3 y4 y5 y6 y7) rfl rfl rfl ?_ rfl
  show evB _ wf K01.b4 [.fr (.lst false (ns.map D.int)), .no, .no, .no, .no, .no, .no, .no] = _
  simp only [lev, Nat.reduceSub, Nat.reduceAdd] at hl eb ⊢
  unfold envL at *
  simp -implicitDefEqProofs only [K01.b4, eb_nil, eb_cons, es_asg, es_rse, es_tryx, tryK_ok, tryK_xc, tryK_if, xc_then, resF_xc, ev_mkx, ev_isz, ev_isx, isxK_exc, ev_xv, xvK_exc, ev_lm, es_aug, es_ex, es_iff, es_ret, es_retn, es_brk, es_cnt, es_ps, es_st, es_stA, lstI_eq, es_stk, es_stt, ev_tdd, es_skA, es_stl, es_forr, es_whl, ev_int, ev_str, ev_bl, ev_non, ev_v, ev_mv, ev_vz, ev_bw, ev_gl, ev_fz, ev_rd, ev_bin, ev_neg, ev_cmp, ev_chn, ev_an, ev_orr, ev_orv, ev_nt, ev_ite, ev_tup, ev_lst, ev_lss, ev_ix, ev_sl, ev_rev, ev_dlk, ev_fs3, ev_bi, ev_bm, ev_app, ev_mm, ev_pop, ev_popi, popK_int, evl_nil, evl_cons, evq_nil, evq_cons, evq_star, evo_no, evo_so, evc_no, evc_so, evi_val, evi_enu, evi_zip, evi_rng1, evi_rng2, evp_s, evp_ix, call_v1, call_v2, call_v3, call_i0, call_i1, call_i2, call_i3, resF_ok, resI_ok, back_a, back_b, back_c, back_d, ok_then, bad_then, if_then, lift_some, lift_none, lift_if, selB_bl, notK_bl, blK_bl, intK_int, negK_int, rngK_int, rngK2_int, nxK_nx, nxK_rt, nxK_bk, nxK_ct, lstK_lst, plK_lst, plK_dic, ev_dsp, ev_mn4, stK_lst, getP_nil, putP_nil, getS_0f, getS_0p, getS_0b, getS_s, setS_0f, setS_0n, setS_s, putS_0f, putS_0p, putS_s, clrS_0f, clrS_0n, clrS_s, clrA, noX_ok, noX_if, Option.map_some, Option.bind_some, Option.map_none, Option.bind_none, tgt_nm, tgt_tup, tgt_lst, tgts_cons, tgts_nil, scalD, fzn, fznL, if_true, Bool.false_eq_true, if_false, decide_true, decide_false, Bool.not_true, Bool.not_false, Bool.and_true, Bool.and_false, Bool.true_and, Bool.false_and, List.length_cons, List.length_nil, Nat.zero_add, Nat.reduceAdd, sz_0, sz_1, sz_2, sz_3, sz_4, sz_5, sz_6, sz_7, sz_8, sz_9, sz_10, sz_11, sz_12, f1, ll, mn, add_of, hrg, eb, hl]
  exact if_pos rfl
end K01

set_option exponentiation.threshold 256

open PySem PySem.W PySem.Calls PyProof.Rows
set_option maxRecDepth 100000 in
set_option maxHeartbeats 0 in
theorem PySem.Challenge.cw_winbytwo_k01_errors_and_their_values_holds : PySem.Challenge.rw_winbytwo_k01_errors_and_their_values.Holds := by
  w_on; o_law
  refine HandSHeadRun.head_any (r := OpenLaw.row PySem.Challenge.rw_winbytwo_k01_errors_and_their_values) (q := view (OpenLaw.row PySem.Challenge.rw_winbytwo_k01_errors_and_their_values).prog [15]) (H := K01.hk) (ob := K01.ob) (M := 4000) (loose := K01.loose) (d := HandSHeadRun.topDef (OpenLaw.row PySem.Challenge.rw_winbytwo_k01_errors_and_their_values).prog 15) (kwd := []) K01.ob_eq
    (by kernel_rfl) (fun s => by kernel_rfl) K01.run0 (by kernel_rfl) (by kernel_rfl) (by kernel_rfl) (by rfl) (by first | assumption | decide +kernel) (by decide +kernel) ⟨rfl, rfl, rfl, rfl, rfl, by decide +kernel⟩ ?hw ?hc
  case hw => w_witness2
  case hc =>
    refine Z.law_walk (l := PySem.Challenge.rw_winbytwo_k01_errors_and_their_values) (n := 63) (k := K01.lev) (x := "script") rfl (by decide) (by kernel_rfl) ⟨rfl, by decide, by decide⟩ ?F
    intro w mg fa h Y G hmg0
    obtain ⟨K, KX, c, cg⟩ := Y
    have hmg : mg ("law" : PySem.Str) = some (.ref fa) := by
      have e : (HandSHeadRun.topDef (OpenLaw.row PySem.Challenge.rw_winbytwo_k01_errors_and_their_values).prog 15).name = ("law" : PySem.Str) := by kernel_rfl
      rw [← e]
      exact hmg0
    obtain ⟨fd, sp, hb, hs, hF⟩ := K01.facts (P := (PySem.Challenge.rw_winbytwo_k01_errors_and_their_values).prog) (w := w) KX G hmg c cg rfl (by decide +kernel) K01.law_true
    exact ⟨K, fd, sp, KX, hb, hs, hF⟩

