import PyProof.Rows.All
import Wide.All
import OpenK.AllK
import Wide.FinOn
import HandS.ForMost
import HandS.ForExc
import HandS.Deep
import HandS.TupAny
import HandS.TupMul
import PyProof.Rows.MatchSeqLen
import HandS.Wide
import HandS.IsInst
import HandS.ClsMeth
import HandS.Star
import HandS.Style
import HandS.RaiseMore
import HandS.FStr
import HandS.Zip
import HandS.Conv
import HandS.Small
import HandS.ListItems
import HandS.Strs
import KE.KRevSl
import HandS.Ends
import HandS.Words
import KE.KStrOpen
import PySem.Challenge.RW_errorplaces_k11_is_stack
set_option Elab.async false
set_option linter.all false
set_option maxRecDepth 100000
/-! An own evaluator for the part of Python that the laws and the package use: values, a small store, a core syntax. -/
namespace Pe
open PySem L2

/-! ### values, the store, results -/
/-- a value: tuples and frozen lists by their content, mutable objects by a place in the store -/
inductive Wv where
  | unb | non | bl (b : Bool) | int (i : Int) | str (x : Str) | tup (xs : List Wv) | lst (xs : List Wv) | ref (l : Nat) | cls (c : Nat) | scr (xs : List Wv)
/-- a mutable object -/
inductive Ob where
  | lst (xs : List Wv) | dic (kvs : List (Key × Wv)) | ins (c : Nat) (fs : List (Nat × Wv)) | dead
abbrev Sto := List Ob
abbrev Ev := List Wv
inductive R (a : Type) where
  | ok (v : a) (S : Sto) | exc (c : Nat) (v : List (Nat × Wv)) (S : Sto) | bad
def R.bind {a b : Type} (m : R a) (f : a → Sto → R b) : R b := match m with
  | .ok v S => f v S
  | .exc c v S => .exc c v S
  | .bad => .bad
theorem R.bind_ok {a b : Type} (v : a) (S : Sto) (f : a → Sto → R b) : (R.ok v S).bind f = f v S := rfl
def R.of {a : Type} (o : Option a) (S : Sto) : R a := match o with
  | some v => .ok v S
  | none => .bad
theorem R.of_some {a : Type} (v : a) (S : Sto) : R.of (some v) S = .ok v S := rfl
theorem R.of_none {a : Type} (S : Sto) : R.of (none : Option a) S = .bad := rfl

/-! ### data -/
mutual
/-- pure data: no mutable object within -/
def Wv.dat : Wv → Bool
  | .non => true
  | .bl _ => true
  | .int _ => true
  | .str _ => true
  | .tup xs => datAll xs
  | .lst xs => datAll xs
  | .unb => false
  | .ref _ => false
  | .cls _ => false
  | .scr _ => false
def datAll : List Wv → Bool
  | [] => true
  | x :: xs => x.dat && datAll xs
end
mutual
def Wv.toD : Wv → PyData
  | .non => .none
  | .bl b => .bool b
  | .int i => .int i
  | .str x => .str x
  | .tup xs => .tuple (toDs xs)
  | .lst xs => .list (toDs xs)
  | .unb => .none
  | .ref _ => .none
  | .cls _ => .none
  | .scr _ => .none
def toDs : List Wv → List PyData
  | [] => []
  | x :: xs => x.toD :: toDs xs
end
/-- a mutable list, read as it stands -/
def view (S : Sto) : Wv → Wv
  | .ref l => match S[l]? with
    | some (.lst xs) => .lst xs
    | _ => .ref l
  | w => w
def eqD (a b : Wv) : Option Bool := if a.dat = true ∧ b.dat = true ∧ a.toD.canLay0 = true ∧ b.toD.canLay0 = true ∧ min a.toD.depth b.toD.depth ≤ 190 then some (PyData.eqv a.toD b.toD) else none
def eqV2 : Wv → Wv → Option Bool
  | .lst xs, .lst ys => if xs.length = ys.length then eqD (.lst xs) (.lst ys) else some false
  | a, b => eqD a b
def eqW (S : Sto) : Wv → Wv → Option Bool
  | .int i, .int j => some (decide (i = j))
  | .str x, .str y => some (decide (x = y))
  | a, b => eqV2 (view S a) (view S b)
def flatW : Wv → Bool
  | .non => true
  | .bl _ => true
  | .int _ => true
  | .str _ => true
  | _ => false
/-- == of flat values -/
def eqF : Wv → Wv → Bool
  | .non, .non => true
  | .bl a, .bl b => a == b
  | .bl a, .int b => (if a then 1 else 0) == b
  | .int a, .bl b => a == (if b then 1 else 0)
  | .int a, .int b => a == b
  | .str a, .str b => a == b
  | _, _ => false
def keyOf : Wv → Option Key
  | .int i => some (.inl i)
  | .str x => some (.inr x)
  | _ => none
def lookK (kvs : List (Key × Wv)) (k : Key) : Option Wv := match kvs with
  | [] => none
  | p :: r => if p.1 = k then some p.2 else lookK r k
def storK (kvs : List (Key × Wv)) (k : Key) (v : Wv) : List (Key × Wv) := if (kvs.any fun p => decide (p.1 = k)) = true then kvs.map (fun p => if p.1 = k then (p.1, v) else p) else kvs ++ [(k, v)]
/-- x in c -/
def inW (S : Sto) (x : Wv) : Wv → Option Bool
  | .str z => match x with
    | .str y => match y.cps.toList with
      | [c] => some (decide (c ∈ z.cps.toList))
      | _ => none
    | _ => none
  | .tup xs => if flatW x = true ∧ xs.all flatW = true then some (xs.any fun y => eqF y x) else none
  | .lst xs => if flatW x = true ∧ xs.all flatW = true then some (xs.any fun y => eqF y x) else if x.dat = true ∧ datAll xs = true ∧ SeqAt.shaped x.toD = true ∧ SeqAt.shaped (.list (toDs xs)) = true then some ((toDs xs).any fun z => PyData.eqv z x.toD) else none
  | .ref l => match S[l]? with
    | some (.lst xs) => if flatW x = true ∧ xs.all flatW = true then some (xs.any fun y => eqF y x) else if x.dat = true ∧ datAll xs = true ∧ SeqAt.shaped x.toD = true ∧ SeqAt.shaped (.list (toDs xs)) = true then some ((toDs xs).any fun z => PyData.eqv z x.toD) else none
    | some (.dic kvs) => (keyOf x).map fun k => (lookK kvs k).isSome
    | _ => none
  | _ => none

/-! ### operators -/
inductive BOp where
  | add | sub | mul | mod | fdiv | pow
inductive COp where
  | eq | ne | lt | le | gt | ge | isin | notin | is | isnot
def line : Nat := sizeLine
def binV (o : BOp) (a b : Wv) : Option Wv := match o, a, b with
  | .add, .int i, .int j => some (.int (i + j))
  | .add, .str x, .str y => if x.length + y.length ≤ line then some (.str (x ++ y)) else none
  | .add, .tup xs, .tup ys => if xs.length + ys.length ≤ line then some (.tup (xs ++ ys)) else none
  | .add, .lst xs, .lst ys => if xs.length + ys.length ≤ line then some (.lst (xs ++ ys)) else none
  | .sub, .int i, .int j => some (.int (i - j))
  | .mul, .int i, .int j => if i.natAbs.log2 + j.natAbs.log2 < 1000000 then some (.int (i * j)) else none
  | .mul, .tup xs, .int k => if 2 ≤ k ∧ k ≤ 1000 ∧ xs.length ≤ 1000 ∧ xs.isEmpty = false then some (.tup (List.replicate k.toNat xs).flatten) else none
  | .mod, .int i, .int j => if 0 < j then some (.int (i % j)) else none
  | .fdiv, .int i, .int j => if 0 < j ∧ j.natAbs.log2 < 9000 then some (.int (i / j)) else none
  | .pow, .int i, .int j => if 0 ≤ j ∧ j ≤ 1000000 ∧ i.natAbs < 2 ^ 64 then some (.int (i ^ j.toNat)) else none
  | _, _, _ => none
def binW (o : BOp) (S : Sto) (a b : Wv) : Option Wv := binV o (view S a) (view S b)
def isW : Wv → Wv → Option Bool
  | a, .non => match a with
    | .unb => none
    | .non => some true
    | _ => some false
  | .bl a, .bl b => some (a == b)
  | _, _ => none
def cmpW (o : COp) (S : Sto) (a b : Wv) : Option Bool := match o with
  | .eq => eqW S a b
  | .ne => (eqW S a b).map not
  | .lt => match a, b with
    | .int i, .int j => some (decide (i < j))
    | .str x, .str y => some (decide (x.cps.toList < y.cps.toList))
    | _, _ => none
  | .le => match a, b with
    | .int i, .int j => some (decide (i ≤ j))
    | _, _ => none
  | .gt => match a, b with
    | .int i, .int j => some (decide (j < i))
    | _, _ => none
  | .ge => match a, b with
    | .int i, .int j => some (decide (j ≤ i))
    | _, _ => none
  | .isin => inW S a b
  | .notin => (inW S a b).map not
  | .is => isW a b
  | .isnot => (isW a b).map not

/-! ### parts of sequences -/
def cutW {a : Type} (xs : List a) (lo hi : Option Int) : List a := (xs.drop (HT.sIx xs.length 0 lo)).take (HT.sIx xs.length xs.length hi - HT.sIx xs.length 0 lo)
def idxW (S : Sto) (o i : Wv) : Option Wv := match view S o, i with
  | .lst xs, .int k => atI xs k
  | .scr xs, .int k => atI xs k
  | .tup xs, .int k => atI xs k
  | .str z, .int k => if z.length ≤ line then (atI z.cps.toList k).map fun c => .str ⟨#[c]⟩ else none
  | .ref l, k => match S[l]? with
    | some (.dic kvs) => (keyOf k).bind fun q => lookK kvs q
    | _ => none
  | _, _ => none
def partOf : Wv → Option (Option Int)
  | .int i => some (some i)
  | _ => none
def slcW (S : Sto) (o : Wv) (l h : Option Int) : Option Wv := match view S o with
  | .lst xs => some (.lst (cutW xs l h))
  | .tup xs => some (.tup (cutW xs l h))
  | .str z => if z.length ≤ line then some (.str (cutS z l h)) else none
  | _ => none

/-! ### sorting texts -/
def insS (x : Str) : List Str → List Str
  | [] => [x]
  | y :: r => if y.cps.toList < x.cps.toList then y :: insS x r else x :: y :: r
def sortS : List Str → List Str
  | [] => []
  | x :: r => insS x (sortS r)
def strsOf : List Wv → Option (List Str)
  | [] => some []
  | .str x :: r => (strsOf r).map fun t => x :: t
  | _ :: _ => none
def sortW (xs : List Wv) : Option (List Wv) := if xs.length < 64 then (strsOf xs).map fun t => (sortS t).map Wv.str else none
def blsOf : List Wv → Option (List Bool)
  | [] => some []
  | .bl b :: r => (blsOf r).map fun t => b :: t
  | _ :: _ => none
def intsOf : List Wv → Option (List Int)
  | [] => some []
  | .int i :: r => (intsOf r).map fun t => i :: t
  | _ :: _ => none
/-- how many different ones -/
def lenSet (xs : List Str) : Nat := xs.eraseDups.length

/-! ### built-in functions of one, of two values -/
inductive Ty where
  | tuple | list | int | bool | str | own (c : Nat)
def isTy (S : Sto) (t : Ty) (w : Wv) : Option Bool := match t, view S w with
  | .own _, _ => none
  | _, .non => some false
  | .bool, .bl _ => some true
  | .int, .bl _ => some true
  | _, .bl _ => some false
  | .int, .int _ => some true
  | _, .int _ => some false
  | .str, .str _ => some true
  | _, .str _ => some false
  | .tuple, .tup _ => some true
  | _, .tup _ => some false
  | .list, .lst _ => some true
  | _, .lst _ => some false
  | _, _ => none
/-- one of several -/
def isAny (S : Sto) (w : Wv) : List Ty → Option Bool
  | [] => some false
  | t :: ts => (isTy S t w).bind fun b => if b = true then some true else isAny S w ts
inductive P1 where
  | len | abs | all | any | sum | tuple | repr | str | int | bool | lenset | upper | isnone
inductive P2 where
  | max | min
def pr1 (p : P1) (S : Sto) (a : Wv) : Option Wv := match p with
  | .len => match view S a with
    | .lst xs => some (.int xs.length)
    | .scr xs => some (.int xs.length)
    | .tup xs => some (.int xs.length)
    | .str z => if z.length ≤ line then some (.int z.length) else none
    | .ref l => match S[l]? with
      | some (.dic kvs) => some (.int kvs.length)
      | _ => none
    | _ => none
  | .abs => match a with
    | .int i => some (.int (if i < 0 then -i else i))
    | _ => none
  | .all => match view S a with
    | .lst xs => (blsOf xs).map fun t => .bl (t.all id)
    | _ => none
  | .any => match view S a with
    | .lst xs => (blsOf xs).map fun t => .bl (t.any id)
    | _ => none
  | .sum => match view S a with
    | .lst xs => (intsOf xs).map fun t => .int t.sum
    | _ => none
  | .tuple => match view S a with
    | .lst xs => some (.tup xs)
    | .tup xs => some (.tup xs)
    | _ => none
  | .repr => let w := view S a
    if w.dat = true ∧ w.toD.showable = true ∧ w.toD.shown.length ≤ line ∧ w.toD.depth ≤ 64 then some (.str w.toD.shown) else none
  | .str => match a with
    | .int i => if i.natAbs.log2 < 1920 then some (.str (toString i)) else none
    | .str x => some (.str x)
    | _ => none
  | .int => match a with
    | .int i => some (.int i)
    | .bl b => some (.int (if b then 1 else 0))
    | _ => none
  | .bool => match a with
    | .int i => some (.bl (i != 0))
    | .bl b => some (.bl b)
    | _ => none
  | .lenset => match view S a with
    | .lst xs => if xs.length < 1000 then (strsOf xs).map fun t => .int (lenSet t) else none
    | _ => none
  | .upper => match a with
    | .str z => if z.length ≤ 5592405 then some (.str (Txt.upper z)) else none
    | _ => none
  | .isnone => none
def pr2 (p : P2) (S : Sto) (a b : Wv) : Option Wv := match p with
  | .max => match a, b with
    | .int i, .int j => some (.int (if j > i then j else i))
    | _, _ => none
  | .min => match a, b with
    | .int i, .int j => some (.int (if j < i then j else i))
    | _, _ => none
def joinW (z : Str) (S : Sto) (b : Wv) : Option Wv := match view S b with
  | .lst xs => (strsOf xs).bind fun ys => if (ys.map (·.length)).sum + ys.length * z.length ≤ 16777216 then some (.str (Txt.join z ys)) else none
  | .tup xs => (strsOf xs).bind fun ys => if (ys.map (·.length)).sum + ys.length * z.length ≤ 16777216 then some (.str (Txt.join z ys)) else none
  | _ => none

/-! ### changes of the store -/
inductive Mu where
  | append | extend | pop | clear | reverse
def mut1 (m : Mu) (S : Sto) (o : Wv) (as : List Wv) : R Wv := match m, o with
  | .append, .ref l => match S[l]?, as with
    | some (.lst xs), [a] => if xs.length < line then .ok .non (S.set l (.lst (xs ++ [a]))) else .bad
    | _, _ => .bad
  | .extend, .ref l => match S[l]?, as with
    | some (.lst xs), [.lst ys] => if xs.length + ys.length ≤ line then .ok .non (S.set l (.lst (xs ++ ys))) else .bad
    | _, _ => .bad
  | .pop, .ref l => match S[l]?, as with
    | some (.lst xs), [.int i] => match ixN xs.length i with
      | some j => match xs[j]? with
        | some x => if xs.length ≤ line then .ok x (S.set l (.lst (xs.eraseIdx j))) else .bad
        | none => .bad
      | none => .bad
    | some (.lst xs), [] => match xs[xs.length - 1]? with
      | some x => .ok x (S.set l (.lst xs.dropLast))
      | none => .bad
    | _, _ => .bad
  | .clear, .ref l => match S[l]?, as with
    | some (.lst _), [] => .ok .non (S.set l (.lst []))
    | _, _ => .bad
  | .reverse, .ref l => match S[l]?, as with
    | some (.lst xs), [] => .ok .non (S.set l (.lst xs.reverse))
    | _, _ => .bad
  | _, _ => .bad
def setI (S : Sto) (o i v : Wv) : Option Sto := match o with
  | .ref l => match S[l]? with
    | some (.lst xs) => match i with
      | .int k => (ixN xs.length k).map fun j => S.set l (.lst (xs.set j v))
      | _ => none
    | some (.dic kvs) => (keyOf i).bind fun k => if kvs.length < line then some (S.set l (.dic (storK kvs k v))) else none
    | _ => none
  | _ => none
def lookF (fs : List (Nat × Wv)) (f : Nat) : Option Wv := match fs with
  | [] => none
  | p :: r => if p.1 = f then some p.2 else lookF r f
def storF (fs : List (Nat × Wv)) (f : Nat) (v : Wv) : List (Nat × Wv) := match fs with
  | [] => [(f, v)]
  | p :: r => if p.1 = f then (p.1, v) :: r else p :: storF r f v

/-! ### the core syntax -/
inductive Tg where
  | nm (i : Nat) | tp (ts : List Tg)
mutual
inductive C where
  | v (i : Nat)
  | k (w : Wv)
  | bin (o : BOp) (a b : C)
  | cmp (o : COp) (a b : C)
  | cmp2 (o p : COp) (a b c : C)
  | not (a : C)
  | and (es : List C)
  | or (es : List C)
  | neg (a : C)
  | ite (t a b : C)
  | tup (es : List C)
  | dsp (bx : Bool) (es : List C)
  | lc (bx : Bool) (own : List Nat) (g : Tg) (it : Ic) (cond : List C) (e : C)
  | lst (bx : Bool) (a : C)
  | srt (bx : Bool) (a : C)
  | idx (a i : C)
  | slc (a : C) (lo hi : Option C)
  | rev (bx : Bool) (a : C)
  | p1 (p : P1) (a : C)
  | p2 (p : P2) (a b : C)
  | jn (a b : C)
  | isi (a : C) (ts : List Ty)
  | mut (m : Mu) (o : C) (a : List C)
  | frz (a : C)
  | att (o : C) (f : Nat)
  | fn (f : Nat) (es : List C)
  | fnk (f : Nat) (es ks : List C) (perm : List Nat)
  | mth (m : Nat) (o : C) (es : List C)
  | cm (c m : Nat) (es : List C)
  | new (c : C)
  | dnew
  | itm (bx : Bool) (a : C)
  | stp (a : C) (es : List C)
/-- what a loop goes through -/
inductive Ic where
  | any (c : C)
  | rng (es : List C)
  | enm (a : C)
end
/-- a pattern: a text, a pair of a text and any value, anything -/
inductive Pt where
  | lit (x : Str) | pair (x : Str) (j : Nat) | wild
inductive S where
  | asg (g : Tg) (e : C)
  | par (i j : Nat) (a b : C)
  | seti (o i e : C)
  | seta (o : C) (f : Nat) (e : C)
  | ex (e : C)
  | ret (e : C)
  | ite (t : C) (a b : List S)
  | for_ (g : Tg) (it : Ic) (b : List S)
  | nx
  | brk
  | cont
  | never
  | mat (i : Nat) (p : Pt) (a b : List S)

/-! ### targets -/
mutual
def bindG : Tg → Wv → Ev → Option Ev
  | .nm i, w, r => if i < r.length then some (r.set i w) else none
  | .tp ts, w, r => match w with
    | .tup xs => bindGs ts xs r
    | _ => none
def bindGs : List Tg → List Wv → Ev → Option Ev
  | [], [], r => some r
  | t :: ts, x :: xs, r => (bindG t x r).bind fun r' => bindGs ts xs r'
  | _, _, _ => none
end
mutual
def slotsG : Tg → List Nat
  | .nm i => [i]
  | .tp ts => slotsGs ts
def slotsGs : List Tg → List Nat
  | [] => []
  | t :: ts => slotsG t ++ slotsGs ts
end
def wipeE (r : Ev) : List Nat → Ev
  | [] => r
  | i :: is => (wipeE r is).set i .unb

/-! ### equality of values as they stand -/
mutual
def same : Wv → Wv → Bool
  | .unb, .unb => true
  | .non, .non => true
  | .bl a, .bl b => a == b
  | .int a, .int b => a == b
  | .str a, .str b => a == b
  | .tup xs, .tup ys => sames xs ys
  | .lst xs, .lst ys => sames xs ys
  | .scr xs, .scr ys => sames xs ys
  | .ref a, .ref b => a == b
  | .cls a, .cls b => a == b
  | _, _ => false
def sames : List Wv → List Wv → Bool
  | [], [] => true
  | x :: xs, y :: ys => same x y && sames xs ys
  | _, _ => false
end
mutual
theorem same_refl : ∀ w : Wv, same w w = true
  | .unb => rfl
  | .non => rfl
  | .bl a => by simp [same]
  | .int a => by simp [same]
  | .str a => by simp [same]
  | .tup xs => by simp [same, sames_refl xs]
  | .lst xs => by simp [same, sames_refl xs]
  | .scr xs => by simp [same, sames_refl xs]
  | .ref a => by simp [same]
  | .cls a => by simp [same]
theorem sames_refl : ∀ ws : List Wv, sames ws ws = true
  | [] => rfl
  | x :: xs => by simp [sames, same_refl x, sames_refl xs]
end
mutual
theorem same_eq : ∀ (v w : Wv), same v w = true → v = w
  | .unb, w, h => by cases w <;> first | rfl | simp [same] at h
  | .non, w, h => by cases w <;> first | rfl | simp [same] at h
  | .bl a, w, h => by cases w <;> simp_all [same]
  | .int a, w, h => by cases w <;> simp_all [same]
  | .str a, w, h => by cases w <;> simp_all [same]
  | .tup xs, w, h => by
    cases w <;> simp only [same] at h <;> first | cases h | skip
    rw [sames_eq xs _ h]
  | .lst xs, w, h => by
    cases w <;> simp only [same] at h <;> first | cases h | skip
    rw [sames_eq xs _ h]
  | .scr xs, w, h => by
    cases w <;> simp only [same] at h <;> first | cases h | skip
    rw [sames_eq xs _ h]
  | .ref a, w, h => by cases w <;> simp_all [same]
  | .cls a, w, h => by cases w <;> simp_all [same]
theorem sames_eq : ∀ (vs ws : List Wv), sames vs ws = true → vs = ws
  | [], ws, h => by cases ws <;> simp_all [sames]
  | x :: xs, ws, h => by
    cases ws with
    | nil => simp [sames] at h
    | cons y ys =>
      simp only [sames, Bool.and_eq_true] at h
      rw [same_eq x y h.1, sames_eq xs ys h.2]
end

/-! ### what the program brings -/
structure Fd where
  np : Nat
  ns : Nat
  kw : Bool
  body : List S
structure Pg where
  fn : Nat → Option Fd
  meth : Nat → Nat → Option Nat
  cmet : Nat → Nat → Option Nat
  init : Nat → Option Nat
  con : Nat → Nat → Option Wv
  fld : Nat → Nat → Bool
abbrev Fo := Nat → List Wv → Sto → R Wv

/-- the items of an iterable, and the list of the store that must stay as it is -/
structure Its where
  xs : List Wv
  gd : Option (Nat × List Wv) := none
def Its.ok (i : Its) (S : Sto) : Bool := match i.gd with
  | none => true
  | some (l, ys) => match S[l]? with
    | some (.lst zs) => sames ys zs
    | _ => false
/-- the items of a comprehension, one after another -/
def loopC (g : Tg) (r : Ev) (G : Sto → Bool) (cond : Ev → Sto → R Bool) (e : Ev → Sto → R Wv) : List Wv → Sto → R (List Wv)
  | [], S => if G S = true then .ok [] S else .bad
  | x :: xs, S => if G S = true then match bindG g x r with
    | none => .bad
    | some r' => (cond r' S).bind fun b S1 => if b = true then (e r' S1).bind fun y S2 => (loopC g r G cond e xs S2).bind fun ys S3 => .ok (y :: ys) S3 else loopC g r G cond e xs S1
    else .bad
def R.nox {a : Type} (m : R a) : R a := match m with
  | .ok v S => .ok v S
  | _ => .bad
def newL (bx : Bool) (xs : List Wv) (S : Sto) : R Wv := if xs.length ≤ line then (if bx = true then .ok (.ref S.length) (S ++ [.lst xs]) else .ok (.lst xs) S) else .bad
def keyW : Key → Wv
  | .inl i => .int i
  | .inr x => .str x
def itemsOf (S : Sto) (w : Wv) : Option (List Wv) := match view S w with
  | .lst xs => some xs
  | .tup xs => some xs
  | .ref l => match S[l]? with
    | some (.dic kvs) => some (kvs.map fun p => keyW p.1)
    | _ => none
  | _ => none
/-- what a for goes through -/
def walkOf (S : Sto) (w : Wv) : Option Its := match w with
  | .lst xs => some ⟨xs, none⟩
  | .tup xs => some ⟨xs, none⟩
  | .scr xs => some ⟨xs, none⟩
  | .str z => some ⟨z.cps.toList.map fun c => .str ⟨#[c]⟩, none⟩
  | .ref l => match S[l]? with
    | some (.lst xs) => some ⟨xs, some (l, xs)⟩
    | _ => none
  | _ => none
def walkL (S : Sto) (w : Wv) : Option Its := match w with
  | .lst xs => some ⟨xs, none⟩
  | .scr xs => some ⟨xs, none⟩
  | .ref l => match S[l]? with
    | some (.lst xs) => some ⟨xs, some (l, xs)⟩
    | _ => none
  | _ => none
def enumW (n : Nat) : List Wv → List Wv
  | [] => []
  | x :: xs => .tup [.int n, x] :: enumW (n + 1) xs
def asBool : Wv → Sto → R Bool
  | .bl b, S => .ok b S
  | _, _ => .bad
def isBx (S : Sto) (w : Wv) : Bool := match w with
  | .ref l => match S[l]? with
    | some (.lst _) => true
    | _ => false
  | _ => false
def getV (r : Ev) (i : Nat) (S : Sto) : R Wv := match r[i]? with
  | none => .bad
  | some .unb => .bad
  | some w => .ok w S
def frzW (S : Sto) : Wv → R Wv
  | .ref l => match S[l]? with
    | some (.lst xs) => .ok (.lst xs) (S.set l .dead)
    | _ => .bad
  | _ => .bad
def attW (P : Pg) (S : Sto) (o : Wv) (f : Nat) : Option Wv := match o with
  | .ref l => match S[l]? with
    | some (.ins c fs) => match lookF fs f with
      | some v => if P.fld c f = true then some v else none
      | none => P.con c f
    | _ => none
  | _ => none
def methOf (P : Pg) (S : Sto) (o : Wv) (m : Nat) : Option Nat := match o with
  | .ref l => match S[l]? with
    | some (.ins c fs) => match lookF fs m with
      | some _ => none
      | none => P.meth c m
    | _ => none
  | _ => none
def setA (P : Pg) (S : Sto) (o : Wv) (f : Nat) (v : Wv) : Option Sto := match o with
  | .ref l => match S[l]? with
    | some (.ins c fs) => if fs.length < 1000 ∧ P.fld c f = true then some (S.set l (.ins c (storF fs f v))) else none
    | _ => none
  | _ => none
def makeW (P : Pg) (F : Fo) (x : Wv) (S : Sto) : R Wv := match x with
  | .cls c => match P.init c with
    | some f => (F f [.ref S.length] (S ++ [.ins c []])).bind fun y S2 => match y with
      | .non => .ok (.ref S.length) S2
      | _ => .bad
    | none => .bad
  | _ => .bad
/-- does a value match: the slots then -/
def matP (S : Sto) (p : Pt) (w : Wv) (r : Ev) : Option (Option Ev) := match p with
  | .wild => some (some r)
  | .lit x => (eqW S w (.str x)).map fun b => if b = true then some r else none
  | .pair x j => match w with
    | .str _ => some none
    | .tup [a, b] => (eqW S a (.str x)).bind fun k => if k = true then (if j < r.length then some (some (r.set j b)) else none) else some none
    | .tup xs => if xs.length = 2 then none else some none
    | _ => none
mutual
def ev (P : Pg) (F : Fo) : C → Ev → Sto → R Wv
  | .v i, r, S => getV r i S
  | .k w, _, S => .ok w S
  | .bin o a b, r, S => (ev P F a r S).bind fun x S1 => (ev P F b r S1).bind fun y S2 => R.of (binW o S2 x y) S2
  | .cmp o a b, r, S => (ev P F a r S).bind fun x S1 => (ev P F b r S1).bind fun y S2 => R.of ((cmpW o S2 x y).map Wv.bl) S2
  | .cmp2 o p a b c, r, S => (ev P F a r S).bind fun x S1 => (ev P F b r S1).bind fun y S2 => match cmpW o S2 x y with
    | none => .bad
    | some false => .ok (.bl false) S2
    | some true => (ev P F c r S2).bind fun z S3 => R.of ((cmpW p S3 y z).map Wv.bl) S3
  | .not a, r, S => ((ev P F a r S).bind asBool).bind fun b S1 => .ok (.bl (!b)) S1
  | .and es, r, S => (evAll P F es r S).bind fun b S1 => .ok (.bl b) S1
  | .or es, r, S => (evAny P F es r S).bind fun b S1 => .ok (.bl b) S1
  | .neg a, r, S => (ev P F a r S).bind fun x S1 => match x with
    | .int i => .ok (.int (-i)) S1
    | _ => .bad
  | .ite t a b, r, S => ((ev P F t r S).bind asBool).bind fun x S1 => if x = true then ev P F a r S1 else ev P F b r S1
  | .tup es, r, S => (evs P F es r S).bind fun xs S1 => if xs.length ≤ line then .ok (.tup xs) S1 else .bad
  | .dsp bx es, r, S => (evs P F es r S).bind fun xs S1 => newL bx xs S1
  | .lc bx own g it cond e, r, S => (evI P F it r S).bind fun i S1 =>
      if i.xs.length ≤ line then (loopC g (wipeE r own) i.ok (fun r' S2 => evAll P F cond r' S2) (fun r' S2 => ev P F e r' S2) i.xs S1).nox.bind fun ys S2 => newL bx ys S2 else .bad
  | .lst bx a, r, S => (ev P F a r S).bind fun x S1 => (R.of (itemsOf S1 x) S1).bind fun xs S1 => newL bx xs S1
  | .srt bx a, r, S => (ev P F a r S).bind fun x S1 => (R.of ((itemsOf S1 x).bind sortW) S1).bind fun xs S1 => newL bx xs S1
  | .idx a i, r, S => (ev P F a r S).bind fun x S1 => (ev P F i r S1).bind fun y S2 => R.of (idxW S2 x y) S2
  | .slc a lo hi, r, S => (ev P F a r S).bind fun x S1 => (evO P F lo r S1).bind fun l S2 => (evO P F hi r S2).bind fun h S3 => R.of (slcW S3 x l h) S3
  | .rev bx a, r, S => (ev P F a r S).bind fun x S1 => match view S1 x with
    | .tup xs => if bx = true then .bad else .ok (.tup xs.reverse) S1
    | .lst xs => newL bx xs.reverse S1
    | _ => .bad
  | .p1 p a, r, S => (ev P F a r S).bind fun x S1 => R.of (pr1 p S1 x) S1
  | .p2 p a b, r, S => (ev P F a r S).bind fun x S1 => (ev P F b r S1).bind fun y S2 => R.of (pr2 p S2 x y) S2
  | .jn a b, r, S => (ev P F a r S).bind fun x S1 => match x with
    | .str z => (ev P F b r S1).bind fun y S2 => R.of (joinW z S2 y) S2
    | _ => .bad
  | .isi a ts, r, S => (ev P F a r S).bind fun x S1 => R.of ((isAny S1 x ts).map Wv.bl) S1
  | .mut m o a, r, S => (ev P F o r S).bind fun x S1 => if isBx S1 x = true then (evs P F a r S1).bind fun y S2 => mut1 m S2 x y else .bad
  | .frz a, r, S => (ev P F a r S).bind fun x S1 => frzW S1 x
  | .att o f, r, S => (ev P F o r S).bind fun x S1 => R.of (attW P S1 x f) S1
  | .fn f es, r, S => (evs P F es r S).bind fun xs S1 => F f xs S1
  | .fnk f es ks perm, r, S => (evs P F es r S).bind fun xs S1 => (evs P F ks r S1).bind fun ys S2 => match perm.mapM fun j => (xs ++ ys)[j]? with
    | some zs => F f zs S2
    | none => .bad
  | .mth m o es, r, S => (ev P F o r S).bind fun x S1 => match methOf P S1 x m with
    | some f => (evs P F es r S1).bind fun xs S2 => F f (x :: xs) S2
    | none => .bad
  | .cm c m es, r, S => (evs P F es r S).bind fun xs S1 => match P.cmet c m with
    | some f => F f (.cls c :: xs) S1
    | none => .bad
  | .new c, r, S => (ev P F c r S).bind fun x S1 => makeW P F x S1
  | .dnew, _, S => .ok (.ref S.length) (S ++ [.dic []])
  | .itm bx a, r, S => (ev P F a r S).bind fun x S1 => match x with
    | .ref l => match S1[l]? with
      | some (.dic kvs) => newL bx (kvs.map fun p => .tup [keyW p.1, p.2]) S1
      | _ => .bad
    | _ => .bad
  | .stp a es, r, S => (ev P F a r S).bind fun x S1 => match x with
    | .tup xs => (evs P F es r S1).bind fun ys S2 => if (xs ++ ys).length ≤ line then .ok (.tup (xs ++ ys)) S2 else .bad
    | _ => .bad
def evs (P : Pg) (F : Fo) : List C → Ev → Sto → R (List Wv)
  | [], _, S => .ok [] S
  | e :: es, r, S => (ev P F e r S).bind fun x S1 => (evs P F es r S1).bind fun xs S2 => .ok (x :: xs) S2
def evAll (P : Pg) (F : Fo) : List C → Ev → Sto → R Bool
  | [], _, S => .ok true S
  | e :: es, r, S => ((ev P F e r S).bind asBool).bind fun b S1 => if b = true then evAll P F es r S1 else .ok false S1
def evAny (P : Pg) (F : Fo) : List C → Ev → Sto → R Bool
  | [], _, S => .ok false S
  | e :: es, r, S => ((ev P F e r S).bind asBool).bind fun b S1 => if b = true then .ok true S1 else evAny P F es r S1
def evO (P : Pg) (F : Fo) : Option C → Ev → Sto → R (Option Int)
  | none, _, S => .ok none S
  | some c, r, S => (ev P F c r S).bind fun w S1 => R.of (partOf w) S1
def evI (P : Pg) (F : Fo) : Ic → Ev → Sto → R Its
  | .rng es, r, S => (evs P F es r S).bind fun xs S1 => match xs with
    | [.int n] => if -(2 ^ 62) ≤ n ∧ n < 2 ^ 62 then .ok ⟨(List.range n.toNat).map fun (i : Nat) => .int (i : Int), none⟩ S1 else .bad
    | _ => .bad
  | .enm a, r, S => (ev P F a r S).bind fun x S1 => R.of ((walkL S1 x).map fun i => ⟨enumW 0 i.xs, i.gd⟩) S1
  | .any e, r, S => (ev P F e r S).bind fun x S1 => R.of (walkOf S1 x) S1
end

/-! ### statements -/
inductive Fl where
  | nx (r : Ev) | rt (v : Wv) | bk (r : Ev) | ct (r : Ev)
def Fl.st : Fl → Fl
  | .ct r => .nx r
  | f => f
def loopS (g : Tg) (G : Sto → Bool) (b : Ev → Sto → R Fl) : List Wv → Ev → Sto → R Fl
  | [], r, S => if G S = true then .ok (.nx r) S else .bad
  | x :: xs, r, S => if G S = true then match bindG g x r with
    | none => .bad
    | some r' => (b r' S).bind fun f S1 => match f with
      | .nx r1 => loopS g G b xs r1 S1
      | .ct r1 => loopS g G b xs r1 S1
      | .bk r1 => .ok (.nx r1) S1
      | .rt v => .ok (.rt v) S1
    else .bad
mutual
def exS (P : Pg) (F : Fo) : S → Ev → Sto → R Fl
  | .asg g e, r, S => (ev P F e r S).bind fun x S1 => match bindG g x r with
    | some r' => .ok (.nx r') S1
    | none => .bad
  | .par i j a b, r, S => (ev P F a r S).bind fun x S1 => (ev P F b r S1).bind fun y S2 => if i < r.length ∧ j < r.length then .ok (.nx ((r.set i x).set j y)) S2 else .bad
  | .seti o i e, r, S => (ev P F e r S).bind fun v S1 => (ev P F o r S1).bind fun x S2 => (ev P F i r S2).bind fun y S3 => match setI S3 x y v with
    | some S4 => .ok (.nx r) S4
    | none => .bad
  | .seta o f e, r, S => (ev P F e r S).bind fun v S1 => (ev P F o r S1).bind fun x S2 => match setA P S2 x f v with
    | some S3 => .ok (.nx r) S3
    | none => .bad
  | .ex e, r, S => (ev P F e r S).bind fun _ S1 => .ok (.nx r) S1
  | .ret e, r, S => (ev P F e r S).bind fun v S1 => .ok (.rt v) S1
  | .ite t a b, r, S => ((ev P F t r S).bind asBool).bind fun x S1 => if x = true then exB P F a r S1 else exB P F b r S1
  | .for_ g it b, r, S => (evI P F it r S).bind fun i S1 => loopS g i.ok (fun r' S2 => exB P F b r' S2) i.xs r S1
  | .nx, r, S => .ok (.nx r) S
  | .brk, r, S => .ok (.bk r) S
  | .cont, r, S => .ok (.ct r) S
  | .never, _, _ => .bad
  | .mat i p a b, r, S => (getV r i S).bind fun w S1 => match matP S1 p w r with
    | none => .bad
    | some none => exB P F b r S1
    | some (some r') => exB P F a r' S1
def exB (P : Pg) (F : Fo) : List S → Ev → Sto → R Fl
  | [], r, S => .ok (.nx r) S
  | s :: ss, r, S => (exS P F s r S).bind fun f S1 => match f with
    | .nx r1 => exB P F ss r1 S1
    | f => .ok f S1
end

/-! ### calls -/
mutual
def under (n : Nat) : Wv → Bool
  | .ref l => decide (l < n)
  | .tup xs => unders n xs
  | .lst xs => unders n xs
  | .scr xs => unders n xs
  | _ => true
def unders (n : Nat) : List Wv → Bool
  | [] => true
  | x :: xs => under n x && unders n xs
end
def Ob.under (n : Nat) : Ob → Bool
  | .lst xs => unders n xs
  | .dic kvs => kvs.all fun p => Pe.under n p.2
  | .ins _ fs => fs.all fun p => Pe.under n p.2
  | .dead => true
/-- what a call leaves: its own objects are forgotten if nothing leads to them -/
def sweep (n : Nat) (v : Wv) (S : Sto) : Sto := if under n v = true ∧ (S.take n).all (Ob.under n) = true then S.take n else S
def backF (n : Nat) (f : Fl) (S : Sto) : R Wv := match f with
  | .rt v => .ok v (sweep n v S)
  | .nx _ => .ok .non (sweep n .non S)
  | _ => .bad
def bodyN (P : Pg) : Nat → Nat → Nat → List Wv → Sto → R Wv
  | 0, _, _, _, _ => .bad
  | n + 1, f, b, vs, S => match P.fn f with
    | none => .bad
    | some d => if vs.length ≤ d.ns then
        (exB P (fun g ws S1 => match P.fn g with
          | none => .bad
          | some e => if ws.length = e.np then (if e.kw = true then bodyN P n g S1.length (ws ++ [.ref S1.length]) (S1 ++ [.dic []]) else bodyN P n g S1.length ws S1) else .bad)
          d.body (vs ++ List.replicate (d.ns - vs.length) .unb) S).bind fun f S1 => backF b f S1
      else .bad
def callN (P : Pg) (n : Nat) : Fo := fun g ws S1 => match P.fn g with
  | none => .bad
  | some e => if ws.length = e.np then (if e.kw = true then bodyN P n g S1.length (ws ++ [.ref S1.length]) (S1 ++ [.dic []]) else bodyN P n g S1.length ws S1) else .bad
theorem bodyN_succ (P : Pg) (n f b : Nat) (vs : List Wv) (S : Sto) : bodyN P (n + 1) f b vs S = match P.fn f with
    | none => .bad
    | some d => if vs.length ≤ d.ns then (exB P (callN P n) d.body (vs ++ List.replicate (d.ns - vs.length) .unb) S).bind fun f S1 => backF b f S1 else .bad := rfl
end Pe

set_option Elab.async false
set_option linter.all false
set_option maxRecDepth 100000
/-! What the evaluator's values and store stand for in the layer's abstract heap. -/
namespace Pe
open PySem PySem.Spec PyProof.Rows L2

/-- where the run's classes stand, how attributes are called -/
structure Tb where
  K : PySem.W.Frag
  ca : Nat → Addr
  an : Nat → Str

/-- a list that is never changed again -/
def FzL (H : Hp) (a : Addr) (ys : List V) : Prop := ∃ o, H a = some (.frz o (.lst ys))
theorem FzL.rd {H : Hp} {a : Addr} {ys : List V} (h : FzL H a ys) : Rd H a (.lst ys) := .inr h
theorem FzL.sq {K : PySem.W.Frag} {H : Hp} {a : Addr} {ys : List V} (h : FzL H a ys) : SqL K H a ys := .inl (.inr h)

variable (T : Tb)
mutual
def RW (is : List Addr) (H : Hp) : Wv → V → Prop
  | .unb, _ => False
  | .non, v => v = .non
  | .bl b, v => v = .bl b
  | .int i, v => v = .int i
  | .str x, v => v = .str x
  | .tup xs, v => ∃ a ys, v = .ref a ∧ SqT T.K H a ys ∧ RWs is H xs ys
  | .lst xs, v => ∃ a ys, v = .ref a ∧ FzL H a ys ∧ RWs is H xs ys
  | .ref l, v => ∃ a, v = .ref a ∧ is[l]? = some a
  | .cls c, v => v = .ref (T.ca c)
  | .scr xs, v => ∃ a ys, v = .ref a ∧ ((∃ o, H a = some (.frz o (.lst ys))) ∨ ∃ (o : Obj) (its : Array Value) (n : Nat), T.K.lookup a = some o ∧ o.cls = .type "list" ∧ o.dict = none ∧ o.data = .seq its n ∧ its.size ≤ sizeLine ∧ Vals ys its.toList) ∧ RWs is H xs ys
def RWs (is : List Addr) (H : Hp) : List Wv → List V → Prop
  | [], ys => ys = []
  | x :: xs, ys => ∃ y r, ys = y :: r ∧ RW is H x y ∧ RWs is H xs r
end
/-- a field list -/
def RFs (is : List Addr) (H : Hp) : List (Nat × Wv) → List (Str × V) → Prop
  | [], ys => ys = []
  | p :: xs, ys => ∃ y r, ys = (T.an p.1, y) :: r ∧ RW T is H p.2 y ∧ RFs is H xs r
/-- a dict's pairs -/
def RKs (is : List Addr) (H : Hp) : List (Key × Wv) → List (Key × V) → Prop
  | [], ys => ys = []
  | p :: xs, ys => ∃ y r, ys = (p.1, y) :: r ∧ RW T is H p.2 y ∧ RKs is H xs r
def RO (is : List Addr) (H : Hp) (a : Addr) : Ob → Prop
  | .lst xs => ∃ ys, H a = some (.lst ys) ∧ RWs T is H xs ys
  | .dic kvs => ∃ ys, H a = some (.dK ys) ∧ RKs T is H kvs ys
  | .ins c fs => ∃ dx ys, H a = some (.ins (T.ca c) dx ys) ∧ RFs T is H fs ys
  | .dead => True
def Ob.live : Ob → Bool
  | .dead => false
  | _ => true
/-- a is a mutable object of the store -/
def Liv (S : Sto) (is : List Addr) (a : Addr) : Prop := ∃ (l : Nat) (ob : Ob), is[l]? = some a ∧ S[l]? = some ob ∧ ob.live = true
structure RS (S : Sto) (is : List Addr) (H : Hp) : Prop where
  len : is.length = S.length
  inj : ∀ (l l' : Nat) (a : Addr) (ob ob' : Ob), is[l]? = some a → is[l']? = some a → S[l]? = some ob → S[l']? = some ob' → ob.live = true → ob'.live = true → l = l'
  ob : ∀ (l : Nat) (ob : Ob) (a : Addr), S[l]? = some ob → is[l]? = some a → RO T is H a ob
/-- what a step leaves as it was -/
structure Fr (S : Sto) (is : List Addr) (H : Hp) (S' : Sto) (is' : List Addr) (H' : Hp) : Prop where
  pre : ∃ t, is' = is ++ t
  keep : ∀ a o, H a = some o → ¬ Liv S is a → H' a = some o ∧ ¬ Liv S' is' a
  there : ∀ a o, H a = some o → ∃ o', H' a = some o'
/-- the slots -/
structure RE (is : List Addr) (H : Hp) (r : Ev) (s : L2.St) : Prop where
  len : r.length = s.length
  at_ : ∀ (i : Nat) (w : Wv), r[i]? = some w → w ≠ .unb → ∃ v, s[i]? = some (some v) ∧ RW T is H w v

variable {T} {S S' S1 S2 : Sto} {is is' is1 is2 : List Addr} {H H' H1 H2 : Hp}
theorem Fr.rfl' : Fr S is H S is H := ⟨⟨[], by simp⟩, fun _ _ h n => ⟨h, n⟩, fun _ o h => ⟨o, h⟩⟩
theorem Fr.free (f : Fr S is H S' is' H') {p : Addr} (np : H' p = none) : H p = none := by
  cases e : H p with
  | none => rfl
  | some o =>
    obtain ⟨o', e'⟩ := f.there p o e
    rw [np] at e'
    cases e'
theorem Fr.trans (a : Fr S is H S1 is1 H1) (b : Fr S1 is1 H1 S2 is2 H2) : Fr S is H S2 is2 H2 := by
  obtain ⟨t, e⟩ := a.pre
  obtain ⟨u, e2⟩ := b.pre
  refine ⟨⟨t ++ u, by rw [e2, e, List.append_assoc]⟩, fun x o h n => ?_, fun x o h => ?_⟩
  · obtain ⟨h1, n1⟩ := a.keep x o h n
    exact b.keep x o h1 n1
  · obtain ⟨o1, h1⟩ := a.there x o h
    exact b.there x o1 h1
theorem Fr.at_ (f : Fr S is H S' is' H') {l : Nat} {a : Addr} (h : is[l]? = some a) : is'[l]? = some a := by
  obtain ⟨t, e⟩ := f.pre
  obtain ⟨h1, h2⟩ := List.getElem?_eq_some_iff.mp h
  rw [e, List.getElem?_append_left h1]
  exact h
/-- no mutable object is a tuple or a thing that is locked -/
theorem RS.liv (h : RS T S is H) {a : Addr} (l : Liv S is a) : (∃ xs, H a = some (.lst xs)) ∨ (∃ kvs, H a = some (.dK kvs)) ∨ ∃ C dx fs, H a = some (.ins C dx fs) := by
  obtain ⟨i, ob, h1, h2, h3⟩ := l
  have q := h.ob i ob a h2 h1
  cases ob with
  | lst xs => obtain ⟨ys, e, _⟩ := q; exact .inl ⟨ys, e⟩
  | dic kvs => obtain ⟨ys, e, _⟩ := q; exact .inr (.inl ⟨ys, e⟩)
  | ins c fs => obtain ⟨dx, ys, e, _⟩ := q; exact .inr (.inr ⟨_, dx, ys, e⟩)
  | dead => cases h3
theorem RS.not_tup (h : RS T S is H) {a : Addr} {xs : List V} (e : H a = some (.tup xs)) : ¬ Liv S is a := fun l => by
  rcases h.liv l with ⟨_, q⟩ | ⟨_, q⟩ | ⟨_, _, _, q⟩ <;> (rw [e] at q; cases q)
theorem RS.not_frz (h : RS T S is H) {a : Addr} {o : Obj} {u : HO} (e : H a = some (.frz o u)) : ¬ Liv S is a := fun l => by
  rcases h.liv l with ⟨_, q⟩ | ⟨_, q⟩ | ⟨_, _, _, q⟩ <;> (rw [e] at q; cases q)
theorem FzL.fr (h : RS T S is H) (f : Fr S is H S' is' H') {a : Addr} {ys : List V} (q : FzL H a ys) : FzL H' a ys := by
  obtain ⟨o, e⟩ := q
  exact ⟨o, (f.keep a _ e (h.not_frz e)).1⟩
theorem SqT_fr (h : RS T S is H) (f : Fr S is H S' is' H') {K : PySem.W.Frag} {a : Addr} {ys : List V} (q : SqT K H a ys) : SqT K H' a ys := by
  rcases q with (e | ⟨o, e⟩) | q
  · exact .inl (.inl (f.keep a _ e (h.not_tup e)).1)
  · exact .inl (.inr ⟨o, (f.keep a _ e (h.not_frz e)).1⟩)
  · exact .inr q
mutual
theorem RW.fr (h : RS T S is H) (f : Fr S is H S' is' H') : ∀ (w : Wv) (v : V), RW T is H w v → RW T is' H' w v
  | .unb, _, q => q
  | .non, _, q => q
  | .bl _, _, q => q
  | .int _, _, q => q
  | .str _, _, q => q
  | .tup xs, _, q => by
    unfold RW at q ⊢
    obtain ⟨a, ys, e, q1, q2⟩ := q
    exact ⟨a, ys, e, SqT_fr h f q1, RWs.fr h f xs ys q2⟩
  | .lst xs, _, q => by
    unfold RW at q ⊢
    obtain ⟨a, ys, e, q1, q2⟩ := q
    exact ⟨a, ys, e, FzL.fr h f q1, RWs.fr h f xs ys q2⟩
  | .ref l, _, q => by
    unfold RW at q ⊢
    obtain ⟨a, e, q1⟩ := q
    exact ⟨a, e, f.at_ q1⟩
  | .cls _, _, q => q
  | .scr xs, _, q => by
    unfold RW at q ⊢
    obtain ⟨a, ys, e, q1, q2⟩ := q
    refine ⟨a, ys, e, ?_, RWs.fr h f xs ys q2⟩
    rcases q1 with q1 | q1
    · exact .inl (FzL.fr h f q1)
    · exact .inr q1
theorem RWs.fr (h : RS T S is H) (f : Fr S is H S' is' H') : ∀ (ws : List Wv) (vs : List V), RWs T is H ws vs → RWs T is' H' ws vs
  | [], _, q => q
  | x :: xs, _, q => by
    unfold RWs at q ⊢
    obtain ⟨y, r, e, q1, q2⟩ := q
    exact ⟨y, r, e, RW.fr h f x y q1, RWs.fr h f xs r q2⟩
end
theorem RE.fr {r : Ev} {s : L2.St} (h : RS T S is H) (f : Fr S is H S' is' H') (q : RE T is H r s) : RE T is' H' r s := ⟨q.len, fun i w e n => by
  obtain ⟨v, h1, h2⟩ := q.at_ i w e n
  exact ⟨v, h1, RW.fr h f w v h2⟩⟩

theorem RWs.cons {is : List Addr} {H : Hp} {x : Wv} {xs : List Wv} {y : V} {ys : List V} (h : RW T is H x y) (t : RWs T is H xs ys) : RWs T is H (x :: xs) (y :: ys) := by
  unfold RWs
  exact ⟨y, ys, rfl, h, t⟩
theorem RWs.nil {is : List Addr} {H : Hp} : RWs T is H [] [] := by
  unfold RWs
  rfl
theorem RWs.length : ∀ {xs : List Wv} {ys : List V}, RWs T is H xs ys → xs.length = ys.length
  | [], ys, h => by unfold RWs at h; rw [h]; rfl
  | x :: xs, ys, h => by
    unfold RWs at h
    obtain ⟨y, r, e, _, t⟩ := h
    rw [e, List.length_cons, List.length_cons, RWs.length t]
theorem RWs.get : ∀ {xs : List Wv} {ys : List V} {i : Nat} {x : Wv}, RWs T is H xs ys → xs[i]? = some x → ∃ y, ys[i]? = some y ∧ RW T is H x y
  | [], _, _, _, _, e => by simp at e
  | x :: xs, ys, 0, z, h, e => by
    unfold RWs at h
    obtain ⟨y, r, e1, q, _⟩ := h
    have e2 : x = z := Option.some.inj e
    subst e2
    exact ⟨y, by rw [e1]; rfl, q⟩
  | x :: xs, ys, i + 1, z, h, e => by
    unfold RWs at h
    obtain ⟨y, r, e1, _, t⟩ := h
    obtain ⟨w, h1, h2⟩ := RWs.get (i := i) t (by simpa using e)
    exact ⟨w, by rw [e1]; simpa using h1, h2⟩
theorem RWs.append : ∀ {xs us : List Wv} {ys vs : List V}, RWs T is H xs ys → RWs T is H us vs → RWs T is H (xs ++ us) (ys ++ vs)
  | [], _, _, _, h, q => by
    unfold RWs at h
    rw [h]
    exact q
  | x :: xs, us, ys, vs, h, q => by
    unfold RWs at h
    obtain ⟨y, r, e, h1, t⟩ := h
    rw [e]
    exact .cons h1 (RWs.append t q)
theorem RWs.take : ∀ (n : Nat) {xs : List Wv} {ys : List V}, RWs T is H xs ys → RWs T is H (xs.take n) (ys.take n)
  | 0, _, _, _ => by simpa using RWs.nil
  | n + 1, [], ys, h => by unfold RWs at h; rw [h]; simpa using RWs.nil
  | n + 1, x :: xs, ys, h => by
    unfold RWs at h
    obtain ⟨y, r, e, h1, t⟩ := h
    rw [e]
    exact .cons h1 (RWs.take n t)
theorem RWs.drop : ∀ (n : Nat) {xs : List Wv} {ys : List V}, RWs T is H xs ys → RWs T is H (xs.drop n) (ys.drop n)
  | 0, _, _, h => by simpa using h
  | n + 1, [], ys, h => by unfold RWs at h; rw [h]; simpa using RWs.nil
  | n + 1, x :: xs, ys, h => by
    unfold RWs at h
    obtain ⟨y, r, e, h1, t⟩ := h
    rw [e]
    exact RWs.drop n t
theorem RWs.set : ∀ (i : Nat) {x : Wv} {y : V} {xs : List Wv} {ys : List V}, RW T is H x y → RWs T is H xs ys → RWs T is H (xs.set i x) (ys.set i y)
  | _, _, _, [], ys, _, h => by unfold RWs at h; rw [h]; simpa using RWs.nil
  | 0, x, y, z :: zs, ys, q, h => by
    unfold RWs at h
    obtain ⟨u, r, e, h1, t⟩ := h
    rw [e]
    exact .cons q t
  | i + 1, x, y, z :: zs, ys, q, h => by
    unfold RWs at h
    obtain ⟨u, r, e, h1, t⟩ := h
    rw [e]
    exact .cons h1 (RWs.set i q t)
theorem RWs.eraseIdx : ∀ (i : Nat) {xs : List Wv} {ys : List V}, RWs T is H xs ys → RWs T is H (xs.eraseIdx i) (ys.eraseIdx i)
  | _, [], ys, h => by unfold RWs at h; rw [h]; simpa using RWs.nil
  | 0, z :: zs, ys, h => by
    unfold RWs at h
    obtain ⟨u, r, e, h1, t⟩ := h
    rw [e]
    exact t
  | i + 1, z :: zs, ys, h => by
    unfold RWs at h
    obtain ⟨u, r, e, h1, t⟩ := h
    rw [e]
    exact .cons h1 (RWs.eraseIdx i t)
theorem RWs.snoc {xs : List Wv} {ys : List V} {x : Wv} {y : V} (h : RWs T is H xs ys) (q : RW T is H x y) : RWs T is H (xs ++ [x]) (ys ++ [y]) := h.append (.cons q .nil)
theorem RWs.reverse : ∀ {xs : List Wv} {ys : List V}, RWs T is H xs ys → RWs T is H xs.reverse ys.reverse
  | [], ys, h => by unfold RWs at h; rw [h]; simpa using RWs.nil
  | x :: xs, ys, h => by
    unfold RWs at h
    obtain ⟨y, r, e, h1, t⟩ := h
    rw [e, List.reverse_cons, List.reverse_cons]
    exact (RWs.reverse t).snoc h1
/-- every value stands for something but the unbound one -/
theorem RW.inj_str {x : Str} {v : V} (h : RW T is H (.str x) v) : v = .str x := by unfold RW at h; exact h
theorem RW.inj_int {i : Int} {v : V} (h : RW T is H (.int i) v) : v = .int i := by unfold RW at h; exact h
theorem RW.inj_bl {b : Bool} {v : V} (h : RW T is H (.bl b) v) : v = .bl b := by unfold RW at h; exact h
theorem RW.inj_non {v : V} (h : RW T is H .non v) : v = .non := by unfold RW at h; exact h

/-! ### steps of the heap -/
theorem upd_eq {H : Hp} {a : Addr} {o : HO} : upd H a o a = some o := upd_same
/-- a new object that the store does not hold -/
theorem upd_there {H : Hp} {p : Addr} {o : HO} : ∀ a u, H a = some u → ∃ u', upd H p o a = some u' := fun a u e => by
  by_cases h : a = p
  · subst h; exact ⟨o, upd_same⟩
  · exact ⟨u, by rw [upd_ne h]; exact e⟩
theorem Fr.new {p : Addr} {o : HO} (h : RS T S is H) (np : H p = none) : Fr S is H S is (upd H p o) := ⟨⟨[], by simp⟩, fun a u e n => ⟨by rw [upd_ne (ne_of_none e np)]; exact e, n⟩, upd_there⟩
theorem Liv.ne (h : RS T S is H) {a p : Addr} (l : Liv S is a) (np : H p = none) : a ≠ p := fun e => by
  subst e
  rcases h.liv l with ⟨_, q⟩ | ⟨_, q⟩ | ⟨_, _, _, q⟩ <;> (rw [np] at q; cases q)
theorem RFs.fr (h : RS T S is H) (f : Fr S is H S' is' H') : ∀ (ws : List (Nat × Wv)) (vs : List (Str × V)), RFs T is H ws vs → RFs T is' H' ws vs
  | [], _, q => q
  | x :: xs, _, q => by
    unfold RFs at q ⊢
    obtain ⟨y, r, e, q1, q2⟩ := q
    exact ⟨y, r, e, RW.fr h f x.2 y q1, RFs.fr h f xs r q2⟩
theorem RKs.fr (h : RS T S is H) (f : Fr S is H S' is' H') : ∀ (ws : List (Key × Wv)) (vs : List (Key × V)), RKs T is H ws vs → RKs T is' H' ws vs
  | [], _, q => q
  | x :: xs, _, q => by
    unfold RKs at q ⊢
    obtain ⟨y, r, e, q1, q2⟩ := q
    exact ⟨y, r, e, RW.fr h f x.2 y q1, RKs.fr h f xs r q2⟩
/-- an object's description over a heap that has its own object -/
theorem RO.fr (h : RS T S is H) (f : Fr S is H S' is' H') {a : Addr} {ob : Ob} (k : ∀ o, H a = some o → H' a = some o) (q : RO T is H a ob) : RO T is' H' a ob := by
  cases ob with
  | lst xs => obtain ⟨ys, e, q⟩ := q; exact ⟨ys, k _ e, RWs.fr h f xs ys q⟩
  | dic kvs => obtain ⟨ys, e, q⟩ := q; exact ⟨ys, k _ e, RKs.fr h f kvs ys q⟩
  | ins c fs => obtain ⟨dx, ys, e, q⟩ := q; exact ⟨dx, ys, k _ e, RFs.fr h f fs ys q⟩
  | dead => trivial
theorem RS.new {p : Addr} {o : HO} (h : RS T S is H) (np : H p = none) : RS T S is (upd H p o) := ⟨h.len, h.inj, fun l ob a e1 e2 => by
  have q := h.ob l ob a e1 e2
  cases hl : ob.live with
  | false => cases ob with
    | dead => trivial
    | _ => cases hl
  | true => exact RO.fr h (Fr.new h np) (fun u e => by rw [upd_ne (ne_of_none e np)]; exact e) q⟩
/-- a new object that the store holds from now on -/
theorem RS.push {p : Addr} {o : HO} {ob : Ob} (h : RS T S is H) (np : H p = none) (q : RO T (is ++ [p]) (upd H p o) p ob) : RS T (S ++ [ob]) (is ++ [p]) (upd H p o) ∧ Fr S is H (S ++ [ob]) (is ++ [p]) (upd H p o) := by
  have lv : ∀ a, Liv (S ++ [ob]) (is ++ [p]) a → Liv S is a ∨ a = p := fun a ⟨l, u, h1, h2, h3⟩ => by
    by_cases hl : l < is.length
    · rw [List.getElem?_append_left hl] at h1
      rw [List.getElem?_append_left (by rw [← h.len]; exact hl)] at h2
      exact .inl ⟨l, u, h1, h2, h3⟩
    · rw [List.getElem?_append_right (Nat.not_lt.mp hl)] at h1
      have := List.getElem?_eq_some_iff.mp h1
      obtain ⟨h4, h5⟩ := this
      have e0 : l - is.length = 0 := by simpa using h4
      rw [e0] at h1
      exact .inr (Option.some.inj h1).symm
  have fr : Fr S is H (S ++ [ob]) (is ++ [p]) (upd H p o) := ⟨⟨[p], rfl⟩, fun a u e n => ⟨by rw [upd_ne (ne_of_none e np)]; exact e, fun z => by
    rcases lv a z with z | z
    · exact n z
    · subst z; rw [np] at e; cases e⟩, upd_there⟩
  refine ⟨⟨by rw [List.length_append, List.length_append, h.len]; rfl, fun l l' a u u' h1 h2 h3 h4 h5 h6 => ?_, fun l u a h1 h2 => ?_⟩, fr⟩
  · by_cases hl : l < is.length <;> by_cases hl' : l' < is.length
    · rw [List.getElem?_append_left hl] at h1
      rw [List.getElem?_append_left (by rw [← h.len]; exact hl)] at h3
      rw [List.getElem?_append_left hl'] at h2
      rw [List.getElem?_append_left (by rw [← h.len]; exact hl')] at h4
      exact h.inj l l' a u u' h1 h2 h3 h4 h5 h6
    · rw [List.getElem?_append_left hl] at h1
      rw [List.getElem?_append_left (by rw [← h.len]; exact hl)] at h3
      rw [List.getElem?_append_right (Nat.not_lt.mp hl')] at h2
      obtain ⟨h7, _⟩ := List.getElem?_eq_some_iff.mp h2
      have e0 : l' - is.length = 0 := by simpa using h7
      rw [e0] at h2
      have e1 : p = a := Option.some.inj h2
      exact absurd e1.symm (Liv.ne h ⟨l, u, h1, h3, h5⟩ np)
    · rw [List.getElem?_append_left hl'] at h2
      rw [List.getElem?_append_left (by rw [← h.len]; exact hl')] at h4
      rw [List.getElem?_append_right (Nat.not_lt.mp hl)] at h1
      obtain ⟨h7, _⟩ := List.getElem?_eq_some_iff.mp h1
      have e0 : l - is.length = 0 := by simpa using h7
      rw [e0] at h1
      have e1 : p = a := Option.some.inj h1
      exact absurd e1.symm (Liv.ne h ⟨l', u', h2, h4, h6⟩ np)
    · obtain ⟨h7, _⟩ := List.getElem?_eq_some_iff.mp h1
      obtain ⟨h8, _⟩ := List.getElem?_eq_some_iff.mp h2
      rw [List.length_append, List.length_singleton] at h7 h8
      omega
  · by_cases hl : l < is.length
    · rw [List.getElem?_append_left hl] at h2
      rw [List.getElem?_append_left (by rw [← h.len]; exact hl)] at h1
      cases hv : u.live with
      | false => cases u with
        | dead => trivial
        | _ => cases hv
      | true => exact RO.fr h fr (fun u' e => by rw [upd_ne (ne_of_none e np)]; exact e) (h.ob l u a h1 h2)
    · rw [List.getElem?_append_right (Nat.not_lt.mp hl)] at h2
      rw [List.getElem?_append_right (by rw [← h.len]; exact Nat.not_lt.mp hl)] at h1
      obtain ⟨h7, _⟩ := List.getElem?_eq_some_iff.mp h2
      have e0 : l - is.length = 0 := by simpa using h7
      have e9 : l - S.length = 0 := by rw [← h.len]; exact e0
      rw [e0] at h2
      rw [e9] at h1
      have e1 : p = a := Option.some.inj h2
      have e2 : ob = u := Option.some.inj h1
      subst e1 e2
      exact q
/-- an object of the store is written -/
theorem RS.write {l : Nat} {a : Addr} {o : HO} {ob ob' : Ob} (h : RS T S is H) (hl : S[l]? = some ob) (ha : is[l]? = some a) (lv : ob.live = true) (hq : Fr S is H (S.set l ob') is (upd H a o) → RO T is (upd H a o) a ob') :
    RS T (S.set l ob') is (upd H a o) ∧ Fr S is H (S.set l ob') is (upd H a o) := by
  have hlt : l < S.length := (List.getElem?_eq_some_iff.mp hl).1
  have lv2 : ∀ b, Liv (S.set l ob') is b → Liv S is b := fun b ⟨i, u, h1, h2, h3⟩ => by
    by_cases e : l = i
    · subst e
      exact ⟨l, ob, h1, hl, lv⟩
    · rw [List.getElem?_set_ne e] at h2
      exact ⟨i, u, h1, h2, h3⟩
  have fr : Fr S is H (S.set l ob') is (upd H a o) := ⟨⟨[], by simp⟩, fun b u e n => ⟨by rw [upd_ne (fun z => n (by subst z; exact ⟨l, ob, ha, hl, lv⟩))]; exact e, fun z => n (lv2 b z)⟩, upd_there⟩
  refine ⟨⟨by rw [List.length_set]; exact h.len, fun i j b u u' h1 h2 h3 h4 h5 h6 => ?_, fun i u b h1 h2 => ?_⟩, fr⟩
  · have g : ∀ (k : Nat) (w : Ob), (S.set l ob')[k]? = some w → w.live = true → ∃ w' : Ob, S[k]? = some w' ∧ w'.live = true := fun k w e x => by
      by_cases z : l = k
      · subst z; exact ⟨ob, hl, lv⟩
      · rw [List.getElem?_set_ne z] at e; exact ⟨w, e, x⟩
    obtain ⟨w1, e1, x1⟩ := g i u h3 h5
    obtain ⟨w2, e2, x2⟩ := g j u' h4 h6
    exact h.inj i j b w1 w2 h1 h2 e1 e2 x1 x2
  · by_cases e : l = i
    · subst e
      rw [List.getElem?_set_self hlt] at h1
      have e1 : ob' = u := Option.some.inj h1
      have e2 : a = b := Option.some.inj (ha.symm.trans h2)
      subst e1 e2
      exact hq fr
    · rw [List.getElem?_set_ne e] at h1
      cases hv : u.live with
      | false => cases u with
        | dead => trivial
        | _ => cases hv
      | true =>
        have nb : b ≠ a := fun z => e (h.inj l i a ob u ha (z ▸ h2) hl h1 lv hv)
        exact RO.fr h fr (fun u' e' => by rw [upd_ne nb]; exact e') (h.ob i u b h1 h2)
/-- a tracked list that the store didn't hold is taken into it -/
theorem RS.adopt {p : Addr} {o : HO} {ob : Ob} (h : RS T S is H) (hp : H p = some o) (nl : ¬ Liv S is p) (q : RO T (is ++ [p]) H p ob) : RS T (S ++ [ob]) (is ++ [p]) H := by
  have lv : ∀ (l : Nat) (a : Addr) (u : Ob), (is ++ [p])[l]? = some a → (S ++ [ob])[l]? = some u → (is[l]? = some a ∧ S[l]? = some u ∧ l < is.length) ∨ (l = is.length ∧ a = p ∧ u = ob) := fun l a u h1 h2 => by
    by_cases hl : l < is.length
    · rw [List.getElem?_append_left hl] at h1
      rw [List.getElem?_append_left (by rw [← h.len]; exact hl)] at h2
      exact .inl ⟨h1, h2, hl⟩
    · rw [List.getElem?_append_right (Nat.not_lt.mp hl)] at h1
      rw [List.getElem?_append_right (by rw [← h.len]; exact Nat.not_lt.mp hl)] at h2
      obtain ⟨h4, h5⟩ := List.getElem?_eq_some_iff.mp h1
      have e0 : l - is.length = 0 := by simpa using h4
      have e9 : l - S.length = 0 := by rw [← h.len]; exact e0
      rw [e0] at h1
      rw [e9] at h2
      exact .inr ⟨by omega, (Option.some.inj h1).symm, (Option.some.inj h2).symm⟩
  refine ⟨by rw [List.length_append, List.length_append, h.len]; rfl, fun l l' a u u' h1 h2 h3 h4 h5 h6 => ?_, fun l u a h1 h2 => ?_⟩
  · rcases lv l a u h1 h3 with ⟨g1, g2, g3⟩ | ⟨e1, e2, e3⟩ <;> rcases lv l' a u' h2 h4 with ⟨k1, k2, k3⟩ | ⟨d1, d2, d3⟩
    · exact h.inj l l' a u u' g1 k1 g2 k2 h5 h6
    · exact absurd ⟨l, u, d2 ▸ g1, g2, h5⟩ nl
    · exact absurd ⟨l', u', e2 ▸ k1, k2, h6⟩ nl
    · omega
  · rcases lv l a u h2 h1 with ⟨g1, g2, g3⟩ | ⟨e1, e2, e3⟩
    · have fr : Fr S is H S (is ++ [p]) H := ⟨⟨[p], rfl⟩, fun b v e n => ⟨e, fun ⟨i, w, z1, z2, z3⟩ => n ⟨i, w, by
          have : i < is.length := by rw [h.len]; exact (List.getElem?_eq_some_iff.mp z2).1
          rw [List.getElem?_append_left this] at z1
          exact z1, z2, z3⟩⟩, fun b v e => ⟨v, e⟩⟩
      exact RO.fr h fr (fun _ e => e) (h.ob l u a g2 g1)
    · rw [e2, e3]; exact q
theorem keep_of_mut (h : RS T S is H) {p : Addr} {o o' : HO} (hp : H p = some o) (hm : Mut (some o)) : ∀ a u, (∃ ob w, u = .frz ob w) ∨ (∃ xs, u = .tup xs) → H a = some u → L2.upd H p o' a = some u := fun a u n e => by
  by_cases z : a = p
  · subst z
    rw [hp] at e
    cases e
    rcases n with ⟨_, _, rfl⟩ | ⟨_, rfl⟩ <;> exact hm.elim
  · rw [upd_ne z]; exact e
mutual
theorem RW.keep {is : List Addr} {H H' : Hp} (k : ∀ a u, (∃ ob w, u = .frz ob w) ∨ (∃ xs, u = .tup xs) → H a = some u → H' a = some u) : ∀ (w : Wv) (v : V), RW T is H w v → RW T is H' w v
  | .unb, _, q => q
  | .non, _, q => q
  | .bl _, _, q => q
  | .int _, _, q => q
  | .str _, _, q => q
  | .tup xs, _, q => by
    unfold RW at q ⊢
    obtain ⟨a, ys, e, q1, q2⟩ := q
    refine ⟨a, ys, e, ?_, RWs.keep k xs ys q2⟩
    rcases q1 with (e | ⟨o, e⟩) | q
    · exact .inl (.inl (k a _ (.inr ⟨_, rfl⟩) e))
    · exact .inl (.inr ⟨o, k a _ (.inl ⟨_, _, rfl⟩) e⟩)
    · exact .inr q
  | .lst xs, _, q => by
    unfold RW at q ⊢
    obtain ⟨a, ys, e, q1, q2⟩ := q
    refine ⟨a, ys, e, ?_, RWs.keep k xs ys q2⟩
    obtain ⟨o, e⟩ := q1
    exact ⟨o, k a _ (.inl ⟨_, _, rfl⟩) e⟩
  | .ref l, _, q => q
  | .cls _, _, q => q
  | .scr xs, _, q => by
    unfold RW at q ⊢
    obtain ⟨a, ys, e, q1, q2⟩ := q
    refine ⟨a, ys, e, ?_, RWs.keep k xs ys q2⟩
    rcases q1 with ⟨o, e⟩ | q
    · exact .inl ⟨o, k a _ (.inl ⟨_, _, rfl⟩) e⟩
    · exact .inr q
theorem RWs.keep {is : List Addr} {H H' : Hp} (k : ∀ a u, (∃ ob w, u = .frz ob w) ∨ (∃ xs, u = .tup xs) → H a = some u → H' a = some u) : ∀ (ws : List Wv) (vs : List V), RWs T is H ws vs → RWs T is H' ws vs
  | [], _, q => q
  | x :: xs, _, q => by
    unfold RWs at q ⊢
    obtain ⟨y, r, e, q1, q2⟩ := q
    exact ⟨y, r, e, RW.keep k x y q1, RWs.keep k xs r q2⟩
end
theorem RFs.keep {is : List Addr} {H H' : Hp} (k : ∀ a u, (∃ ob w, u = .frz ob w) ∨ (∃ xs, u = .tup xs) → H a = some u → H' a = some u) : ∀ (ws : List (Nat × Wv)) (vs : List (Str × V)), RFs T is H ws vs → RFs T is H' ws vs
  | [], _, q => q
  | x :: xs, _, q => by
    unfold RFs at q ⊢
    obtain ⟨y, r, e, q1, q2⟩ := q
    exact ⟨y, r, e, RW.keep k x.2 y q1, RFs.keep k xs r q2⟩
theorem RKs.keep {is : List Addr} {H H' : Hp} (k : ∀ a u, (∃ ob w, u = .frz ob w) ∨ (∃ xs, u = .tup xs) → H a = some u → H' a = some u) : ∀ (ws : List (Key × Wv)) (vs : List (Key × V)), RKs T is H ws vs → RKs T is H' ws vs
  | [], _, q => q
  | x :: xs, _, q => by
    unfold RKs at q ⊢
    obtain ⟨y, r, e, q1, q2⟩ := q
    exact ⟨y, r, e, RW.keep k x.2 y q1, RKs.keep k xs r q2⟩
/-- an object outside the store is changed (no tuple, nothing locked) -/
theorem RS.out {p : Addr} {o o' : HO} (h : RS T S is H) (nl : ¬ Liv S is p) (hp : H p = some o) (hm : Mut (some o)) : RS T S is (upd H p o') := ⟨h.len, h.inj, fun l ob a e1 e2 => by
  have q := h.ob l ob a e1 e2
  have k := keep_of_mut (o' := o') h hp hm
  cases hv : ob.live with
  | false => cases ob with
    | dead => trivial
    | _ => cases hv
  | true =>
    have na : a ≠ p := fun z => nl (z ▸ ⟨l, ob, e2, e1, hv⟩)
    cases ob with
    | lst xs => obtain ⟨ys, e, q⟩ := q; exact ⟨ys, by rw [upd_ne na]; exact e, RWs.keep k xs ys q⟩
    | dic kvs => obtain ⟨ys, e, q⟩ := q; exact ⟨ys, by rw [upd_ne na]; exact e, RKs.keep k kvs ys q⟩
    | ins c fs => obtain ⟨dx, ys, e, q⟩ := q; exact ⟨dx, ys, by rw [upd_ne na]; exact e, RFs.keep k fs ys q⟩
    | dead => trivial⟩
/-- an object of the store is locked for good and given up -/
theorem RS.kill {l : Nat} {a : Addr} {o o' : HO} {ob : Ob} (h : RS T S is H) (hl : S[l]? = some ob) (ha : is[l]? = some a) (lv : ob.live = true) (hp : H a = some o) (hm : Mut (some o)) :
    RS T (S.set l .dead) is (upd H a o') ∧ Fr S is H (S.set l .dead) is (upd H a o') := by
  have hlt : l < S.length := (List.getElem?_eq_some_iff.mp hl).1
  have lv2 : ∀ b, Liv (S.set l .dead) is b → Liv S is b := fun b ⟨i, u, h1, h2, h3⟩ => by
    by_cases e : l = i
    · subst e
      rw [List.getElem?_set_self hlt] at h2
      cases h2
      cases h3
    · rw [List.getElem?_set_ne e] at h2
      exact ⟨i, u, h1, h2, h3⟩
  have k := keep_of_mut (o' := o') h hp hm
  refine ⟨⟨by rw [List.length_set]; exact h.len, fun i j b u u' h1 h2 h3 h4 h5 h6 => ?_, fun i u b h1 h2 => ?_⟩, ⟨⟨[], by simp⟩, fun b u e n => ⟨by rw [upd_ne (fun z => n (by subst z; exact ⟨l, ob, ha, hl, lv⟩))]; exact e, fun z => n (lv2 b z)⟩, upd_there⟩⟩
  · have g : ∀ (k : Nat) (w : Ob), (S.set l .dead)[k]? = some w → w.live = true → S[k]? = some w := fun k w e x => by
      by_cases z : l = k
      · subst z
        rw [List.getElem?_set_self hlt] at e
        cases e
        cases x
      · rw [List.getElem?_set_ne z] at e; exact e
    exact h.inj i j b u u' h1 h2 (g i u h3 h5) (g j u' h4 h6) h5 h6
  · by_cases e : l = i
    · subst e
      rw [List.getElem?_set_self hlt] at h1
      cases h1
      trivial
    · rw [List.getElem?_set_ne e] at h1
      cases hv : u.live with
      | false => cases u with
        | dead => trivial
        | _ => cases hv
      | true =>
        have nb : b ≠ a := fun z => e (h.inj l i a ob u ha (z ▸ h2) hl h1 lv hv)
        have q := h.ob i u b h1 h2
        cases u with
        | lst xs => obtain ⟨ys, e, q⟩ := q; exact ⟨ys, by rw [upd_ne nb]; exact e, RWs.keep k xs ys q⟩
        | dic kvs => obtain ⟨ys, e, q⟩ := q; exact ⟨ys, by rw [upd_ne nb]; exact e, RKs.keep k kvs ys q⟩
        | ins c fs => obtain ⟨dx, ys, e, q⟩ := q; exact ⟨dx, ys, by rw [upd_ne nb]; exact e, RFs.keep k fs ys q⟩
        | dead => trivial
end Pe

set_option Elab.async false
set_option linter.all false
set_option maxRecDepth 100000
/-! Readings of the evaluator's runs, and how they compose. -/
namespace Pe
open PySem PySem.Spec PyProof.Rows L2

def R.post {a : Type} (m : R a) (f : a → Sto → Prop) (g : Nat → List (Nat × Wv) → Sto → Prop) : Prop := match m with
  | .ok v S => f v S
  | .exc c v S => g c v S
  | .bad => False
theorem R.post_bind {a b : Type} {m : R a} {k : a → Sto → R b} {f : b → Sto → Prop} {g : Nat → List (Nat × Wv) → Sto → Prop} (h : (m.bind k).post f g) : m.post (fun v S => (k v S).post f g) g := by
  cases m with
  | ok v S => exact h
  | exc c v S => exact h
  | bad => exact h
theorem R.post_mono {a : Type} {m : R a} {f f' : a → Sto → Prop} {g g' : Nat → List (Nat × Wv) → Sto → Prop} (h : m.post f g) (hf : ∀ v S, f v S → f' v S) (hg : ∀ c v S, g c v S → g' c v S) : m.post f' g' := by
  cases m with
  | ok v S => exact hf _ _ h
  | exc c v S => exact hg _ _ _ h
  | bad => exact h
theorem R.post_of {a : Type} {o : Option a} {S : Sto} {f : a → Sto → Prop} {g : Nat → List (Nat × Wv) → Sto → Prop} (h : (R.of o S).post f g) : ∃ v, o = some v ∧ f v S := by
  cases o with
  | none => exact h.elim
  | some v => exact ⟨v, rfl, h⟩

variable (T : Tb) (E : XK)
/-- what is wanted of a value, of values, of an exception -/
def qW (S : Sto) (is : List Addr) (H : Hp) (Q : VK) : Wv → Sto → Prop := fun w S' => ∀ is' H' v, RS T S' is' H' → Fr S is H S' is' H' → RW T is' H' w v → Q v H'
def qWs (S : Sto) (is : List Addr) (H : Hp) (Q : List V → Hp → Prop) : List Wv → Sto → Prop := fun w S' => ∀ is' H' v, RS T S' is' H' → Fr S is H S' is' H' → RWs T is' H' w v → Q v H'
def qB (S : Sto) (is : List Addr) (H : Hp) (Q : Bool → Hp → Prop) : Bool → Sto → Prop := fun b S' => ∀ is' H', RS T S' is' H' → Fr S is H S' is' H' → Q b H'
def qX (S : Sto) (is : List Addr) (H : Hp) : Nat → List (Nat × Wv) → Sto → Prop := fun c fs S' => ∀ is' H' d ys, RS T S' is' H' → Fr S is H S' is' H' → H' d = some (.xd ys) → RFs T is' H' fs ys → E (.ref (T.ca c)) (some d) H'
/-- a new mutable list that the store doesn't hold -/
def qL (S : Sto) (is : List Addr) (H : Hp) (Q : VK) : List Wv → Sto → Prop := fun w S' => ∀ is' H' p v, RS T S' is' H' → Fr S is H S' is' H' → ¬ Liv S' is' p → H p = none → H' p = some (.lst v) → RWs T is' H' w v → Q (.ref p) H'

abbrev Mw (a : Type) := Ev → Sto → R a
def tW (m : Mw Wv) : TE := fun s H Q => ∃ S is r, RS T S is H ∧ RE T is H r s ∧ (m r S).post (qW T S is H Q) (qX T E S is H)
def tWs (m : Mw (List Wv)) : TA := fun s H Q => ∃ S is r, RS T S is H ∧ RE T is H r s ∧ (m r S).post (qWs T S is H Q) (qX T E S is H)
def tBl (m : Mw Bool) : TT := fun s H Q => ∃ S is r, RS T S is H ∧ RE T is H r s ∧ (m r S).post (qB T S is H Q) (qX T E S is H)
def tL (m : Mw (List Wv)) : TE := fun s H Q => ∃ S is r, RS T S is H ∧ RE T is H r s ∧ (m r S).post (qL T S is H Q) (qX T E S is H)
/-- behind a value, behind two -/
def r1 (g : Wv → Sto → R Wv) : V → Hp → VK → Prop := fun x H Q => ∃ S is a, RS T S is H ∧ RW T is H a x ∧ (g a S).post (qW T S is H Q) (qX T E S is H)
def r2 (g : Wv → Wv → Sto → R Wv) : R2 := fun x y H Q => ∃ S is a b, RS T S is H ∧ RW T is H a x ∧ RW T is H b y ∧ (g a b S).post (qW T S is H Q) (qX T E S is H)
def r3 (g : Wv → Wv → Wv → Sto → R Wv) : V → V → V → Hp → VK → Prop := fun x y z H Q => ∃ S is a b c, RS T S is H ∧ RW T is H a x ∧ RW T is H b y ∧ RW T is H c z ∧ (g a b c S).post (qW T S is H Q) (qX T E S is H)
def rS (g : List Wv → Sto → R Wv) : List V → Hp → VK → Prop := fun xs H Q => ∃ S is as, RS T S is H ∧ RWs T is H as xs ∧ (g as S).post (qW T S is H Q) (qX T E S is H)
def rL (g : List Wv → Sto → R (List Wv)) : List V → Hp → VK → Prop := fun xs H Q => ∃ S is as, RS T S is H ∧ RWs T is H as xs ∧ (g as S).post (qL T S is H Q) (qX T E S is H)

variable {T E} {S S1 S2 : Sto} {is is1 is2 : List Addr} {H H1 H2 : Hp} {s : L2.St}
theorem qX.fr (f : Fr S is H S1 is1 H1) {c : Nat} {fs : List (Nat × Wv)} {S2 : Sto} (h : qX T E S is H c fs S2) : qX T E S1 is1 H1 c fs S2 := fun is' H' d ys h1 h2 => h is' H' d ys h1 (f.trans h2)
theorem qW.fr (f : Fr S is H S1 is1 H1) {Q : VK} {w : Wv} {S2 : Sto} (h : qW T S is H Q w S2) : qW T S1 is1 H1 Q w S2 := fun is' H' v h1 h2 => h is' H' v h1 (f.trans h2)
theorem qWs.fr (f : Fr S is H S1 is1 H1) {Q : List V → Hp → Prop} {w : List Wv} {S2 : Sto} (h : qWs T S is H Q w S2) : qWs T S1 is1 H1 Q w S2 := fun is' H' v h1 h2 => h is' H' v h1 (f.trans h2)
theorem qB.fr (f : Fr S is H S1 is1 H1) {Q : Bool → Hp → Prop} {w : Bool} {S2 : Sto} (h : qB T S is H Q w S2) : qB T S1 is1 H1 Q w S2 := fun is' H' h1 h2 => h is' H' h1 (f.trans h2)

/-! ### one after another -/
variable (T E)
def kW (k : Ev → Wv → Sto → R Wv) (s : L2.St) (x : V) (H : Hp) (Q : VK) : Prop := ∃ S is r w, RS T S is H ∧ RE T is H r s ∧ RW T is H w x ∧ (k r w S).post (qW T S is H Q) (qX T E S is H)
def kW2 (k : Ev → Wv → Wv → Sto → R Wv) (s : L2.St) (x y : V) (H : Hp) (Q : VK) : Prop := ∃ S is r w z, RS T S is H ∧ RE T is H r s ∧ RW T is H w x ∧ RW T is H z y ∧ (k r w z S).post (qW T S is H Q) (qX T E S is H)
def kW3 (k : Ev → Wv → Wv → Wv → Sto → R Wv) (s : L2.St) (x y z : V) (H : Hp) (Q : VK) : Prop := ∃ S is r a b c, RS T S is H ∧ RE T is H r s ∧ RW T is H a x ∧ RW T is H b y ∧ RW T is H c z ∧ (k r a b c S).post (qW T S is H Q) (qX T E S is H)
def kWs (k : Ev → List Wv → Sto → R Wv) (s : L2.St) (xs : List V) (H : Hp) (Q : VK) : Prop := ∃ S is r ws, RS T S is H ∧ RE T is H r s ∧ RWs T is H ws xs ∧ (k r ws S).post (qW T S is H Q) (qX T E S is H)
def kB (k : Ev → Bool → Sto → R Wv) (s : L2.St) (b : Bool) (H : Hp) (Q : VK) : Prop := ∃ S is r, RS T S is H ∧ RE T is H r s ∧ (k r b S).post (qW T S is H Q) (qX T E S is H)
variable {T E}
theorem tW_seq {m : Mw Wv} {k : Ev → Wv → Sto → R Wv} {Q : VK} (h : tW T E (fun r S => (m r S).bind (k r)) s H Q) : tW T E m s H (fun x H1 => kW T E k s x H1 Q) := by
  obtain ⟨S, is, r, hS, hr, hp⟩ := h
  exact ⟨S, is, r, hS, hr, R.post_mono (R.post_bind hp) (fun w S1 q is1 H1 x h1 f hw => ⟨S1, is1, r, w, h1, hr.fr hS f, hw, R.post_mono q (fun _ _ z => z.fr f) fun _ _ _ z => z.fr f⟩) fun _ _ _ z => z⟩
theorem kW_seq {k : Ev → Wv → Wv → Sto → R Wv} {Q : VK} {m' : Mw Wv} {x : V} (h : kW T E (fun r w S => (m' r S).bind (k r w)) s x H Q) : tW T E m' s H (fun y H1 => kW2 T E k s x y H1 Q) := by
  obtain ⟨S, is, r, w, hS, hr, hw, hp⟩ := h
  exact ⟨S, is, r, hS, hr, R.post_mono (R.post_bind hp) (fun z S1 q is1 H1 y h1 f hz => ⟨S1, is1, r, w, z, h1, hr.fr hS f, RW.fr hS f w x hw, hz, R.post_mono q (fun _ _ z => z.fr f) fun _ _ _ z => z.fr f⟩) fun _ _ _ z => z⟩
theorem kW2_seq {k : Ev → Wv → Wv → Wv → Sto → R Wv} {Q : VK} {m' : Mw Wv} {x y : V} (h : kW2 T E (fun r w z S => (m' r S).bind (k r w z)) s x y H Q) : tW T E m' s H (fun u H1 => kW3 T E k s x y u H1 Q) := by
  obtain ⟨S, is, r, w, z, hS, hr, hw, hz, hp⟩ := h
  exact ⟨S, is, r, hS, hr, R.post_mono (R.post_bind hp) (fun c S1 q is1 H1 y h1 f hc => ⟨S1, is1, r, w, z, c, h1, hr.fr hS f, RW.fr hS f w _ hw, RW.fr hS f z _ hz, hc, R.post_mono q (fun _ _ z => z.fr f) fun _ _ _ z => z.fr f⟩) fun _ _ _ z => z⟩
theorem kW2_r {g : Wv → Wv → Sto → R Wv} {x y : V} {Q : VK} (h : kW2 T E (fun _ => g) s x y H Q) : r2 T E g x y H Q := by
  obtain ⟨S, is, r, w, z, hS, hr, hw, hz, hp⟩ := h
  exact ⟨S, is, w, z, hS, hw, hz, hp⟩
theorem kW_r {g : Wv → Sto → R Wv} {x : V} {Q : VK} (h : kW T E (fun _ => g) s x H Q) : r1 T E g x H Q := by
  obtain ⟨S, is, r, w, hS, hr, hw, hp⟩ := h
  exact ⟨S, is, w, hS, hw, hp⟩
theorem kWs_r {g : List Wv → Sto → R Wv} {xs : List V} {Q : VK} (h : kWs T E (fun _ => g) s xs H Q) : rS T E g xs H Q := by
  obtain ⟨S, is, r, w, hS, hr, hw, hp⟩ := h
  exact ⟨S, is, w, hS, hw, hp⟩
theorem tWs_seq {m : Mw (List Wv)} {k : Ev → List Wv → Sto → R Wv} {Q : VK} (h : tW T E (fun r S => (m r S).bind (k r)) s H Q) : tWs T E m s H (fun xs H1 => kWs T E k s xs H1 Q) := by
  obtain ⟨S, is, r, hS, hr, hp⟩ := h
  exact ⟨S, is, r, hS, hr, R.post_mono (R.post_bind hp) (fun w S1 q is1 H1 x h1 f hw => ⟨S1, is1, r, w, h1, hr.fr hS f, hw, R.post_mono q (fun _ _ z => z.fr f) fun _ _ _ z => z.fr f⟩) fun _ _ _ z => z⟩
theorem tB_seq {m : Mw Bool} {k : Ev → Bool → Sto → R Wv} {Q : VK} (h : tW T E (fun r S => (m r S).bind (k r)) s H Q) : tBl T E m s H (fun b H1 => kB T E k s b H1 Q) := by
  obtain ⟨S, is, r, hS, hr, hp⟩ := h
  exact ⟨S, is, r, hS, hr, R.post_mono (R.post_bind hp) (fun w S1 q is1 H1 h1 f => ⟨S1, is1, r, h1, hr.fr hS f, R.post_mono q (fun _ _ z => z.fr f) fun _ _ _ z => z.fr f⟩) fun _ _ _ z => z⟩

theorem _root_.L2.PE.weak {X : Cx} {e : Expr} {t t' : TE} (h : PE X e t) (w : ∀ s H Q, t' s H Q → t s H Q) : PE X e t' := ⟨fun pins s σ H Q I q => h.run pins s σ H Q I (w _ _ _ q)⟩
theorem _root_.L2.PT.weak {X : Cx} {e : Expr} {t t' : TT} (h : PT X e t) (w : ∀ s H Q, t' s H Q → t s H Q) : PT X e t' := ⟨fun pins s σ H Q I q => h.run pins s σ H Q I (w _ _ _ q)⟩
theorem _root_.L2.PW.weak {X : Cx} {e : Expr} {t t' : TT} (h : PW X e t) (w : ∀ s H Q, t' s H Q → t s H Q) : PW X e t' := ⟨fun wh pins s σ H Q I q => h.run wh pins s σ H Q I (w _ _ _ q)⟩
theorem _root_.L2.PA.weak {X : Cx} {e : List Expr} {t t' : TA} (h : PA X e t) (w : ∀ s H Q, t' s H Q → t s H Q) : PA X e t' := ⟨fun p pins s σ H Q I q => h.run p pins s σ H Q I (w _ _ _ q)⟩

/-! ### values and tests -/
variable {X : Cx}
/-- a value that stands at once -/
theorem tW_ok {w : Ev → Sto → R Wv} {Q : VK} (h : tW T E w s H Q) : ∃ S is r, RS T S is H ∧ RE T is H r s ∧ (w r S).post (qW T S is H Q) (qX T E S is H) := h
theorem qW_now {Q : VK} {w : Wv} {v : V} (hS : RS T S is H) (hw : RW T is H w v) (q : qW T S is H Q w S) : Q v H := q is H v hS .rfl' hw

theorem tW_mono {m : Mw Wv} {Q Q' : VK} (h : tW T E m s H Q) (q : ∀ v H', Q v H' → Q' v H') : tW T E m s H Q' := by
  obtain ⟨S, is, r, hS, hr, hp⟩ := h
  exact ⟨S, is, r, hS, hr, R.post_mono hp (fun w S1 z is1 H1 x h1 f hw => q _ _ (z is1 H1 x h1 f hw)) fun _ _ _ z => z⟩
theorem tWs_mono {m : Mw (List Wv)} {Q Q' : List V → Hp → Prop} (h : tWs T E m s H Q) (q : ∀ v H', Q v H' → Q' v H') : tWs T E m s H Q' := by
  obtain ⟨S, is, r, hS, hr, hp⟩ := h
  exact ⟨S, is, r, hS, hr, R.post_mono hp (fun w S1 z is1 H1 x h1 f hw => q _ _ (z is1 H1 x h1 f hw)) fun _ _ _ z => z⟩
theorem tBl_mono {m : Mw Bool} {Q Q' : Bool → Hp → Prop} (h : tBl T E m s H Q) (q : ∀ v H', Q v H' → Q' v H') : tBl T E m s H Q' := by
  obtain ⟨S, is, r, hS, hr, hp⟩ := h
  exact ⟨S, is, r, hS, hr, R.post_mono hp (fun w S1 z is1 H1 h1 f => q _ _ (z is1 H1 h1 f)) fun _ _ _ z => z⟩
/-- two values, then what is made of them -/
theorem tW_2 {ma mb : Mw Wv} {g : Wv → Wv → Sto → R Wv} {Q : VK} (h : tW T E (fun r S => (ma r S).bind fun x S1 => (mb r S1).bind fun y S2 => g x y S2) s H Q) :
    tW T E ma s H fun x H1 => tW T E mb s H1 fun y H2 => r2 T E g x y H2 Q :=
  tW_mono (tW_seq (k := fun r x S1 => (mb r S1).bind fun y S2 => g x y S2) h) fun _ _ q => tW_mono (kW_seq (k := fun _ x y S2 => g x y S2) q) fun _ _ q => kW2_r q
theorem tW_1 {ma : Mw Wv} {g : Wv → Sto → R Wv} {Q : VK} (h : tW T E (fun r S => (ma r S).bind fun x S1 => g x S1) s H Q) : tW T E ma s H fun x H1 => r1 T E g x H1 Q :=
  tW_mono (tW_seq (k := fun _ x S1 => g x S1) h) fun _ _ q => kW_r q
/-- an operator -/
theorem e_bin {a b : Expr} {op : Operator} {pos : Pos} {ma mb : Mw Wv} {g : Wv → Wv → Sto → R Wv} (ha : PE X a (tW T E ma)) (hb : PE X b (tW T E mb)) (ho : OpR X (binaryOp op) (r2 T E g)) :
    PE X (.BinOp a op b pos) (tW T E fun r S => (ma r S).bind fun x S1 => (mb r S1).bind fun y S2 => g x y S2) := (pe_op ho ha hb).weak fun s H Q h => tW_2 h
theorem e_cmp {a b : Expr} {op : CmpOp} {pos : Pos} {ma mb : Mw Wv} {g : Wv → Wv → Sto → R Wv} (ha : PE X a (tW T E ma)) (hb : PE X b (tW T E mb)) (ho : OpR X (compareOp op) (r2 T E g)) (hm : behindInMarks op b = false) :
    PE X (.Compare a [op] [b] pos) (tW T E fun r S => (ma r S).bind fun x S1 => (mb r S1).bind fun y S2 => g x y S2) := (pe_cmpR ho ha hb hm).weak fun s H Q h => tW_2 h
/-- a name, a constant -/
theorem e_var {i : Nat} {x : Str} {pos : Pos} (hN : X.N[i]? = some x) (hv : Vis X.env.scope x) (hd : (x == ("__debug__" : Str)) = false) (hcd : (x == ("__classdict__" : Str)) = false) :
    PE X (.Name x pos) (tW T E fun r S => getV r i S) := (pe_var hN hv hd hcd).weak fun s H Q h => by
  obtain ⟨S, is, r, hS, hr, hp⟩ := h
  unfold getV at hp
  dsimp only at hp
  cases e : r[i]? with
  | none => rw [e] at hp; exact hp.elim
  | some w =>
    rw [e] at hp
    have nu : w ≠ .unb := fun z => by subst z; exact hp
    obtain ⟨v, h1, h2⟩ := hr.at_ i w e nu
    refine ⟨v, h1, ?_⟩
    have hp' : (R.ok w S).post (qW T S is H Q) (qX T E S is H) := by cases w <;> first | exact hp | exact absurd rfl nu
    exact qW_now hS h2 hp'
theorem e_con {e : Expr} {w : Wv} {v : V} (h : PE X e (tC v)) (hw : ∀ is H, RW T is H w v) : PE X e (tW T E fun _ S => .ok w S) := h.weak fun s H Q h => by
  obtain ⟨S, is, r, hS, hr, hp⟩ := h
  exact qW_now hS (hw is H) hp
end Pe

set_option Elab.async false
set_option linter.all false
set_option maxRecDepth 100000
/-! The operators. -/
namespace Pe
open PySem PySem.Spec PyProof.Rows L2
variable {T : Tb} {E : XK} {X : Cx} {S S1 S2 : Sto} {is is1 is2 : List Addr} {H H1 H2 : Hp} {s : L2.St}

/-- a value as it is read: a mutable list of the store by what it holds -/
def VW (T : Tb) (is : List Addr) (H : Hp) : Wv → V → Prop
  | .lst xs, v => ∃ a ys, v = .ref a ∧ Rd H a (.lst ys) ∧ RWs T is H xs ys
  | w, v => RW T is H w v
theorem VW.of {w : Wv} {v : V} (h : RW T is H w v) : VW T is H w v := by
  cases w with
  | lst xs =>
    unfold RW at h
    obtain ⟨a, ys, e, q, r⟩ := h
    exact ⟨a, ys, e, q.rd, r⟩
  | _ => exact h
theorem RS.view (h : RS T S is H) {w : Wv} {v : V} (q : RW T is H w v) : VW T is H (view S w) v := by
  cases w with
  | ref l =>
    unfold Pe.view
    dsimp only
    split
    · rename_i xs e
      unfold RW at q
      obtain ⟨a, e1, e2⟩ := q
      obtain ⟨ys, e3, r⟩ := h.ob l _ a e e2
      exact ⟨a, ys, e1, .inl e3, r⟩
    · exact q
  | _ => exact VW.of q
theorem VW.int {i : Int} {v : V} (h : VW T is H (.int i) v) : v = .int i := by unfold VW RW at h; exact h
theorem VW.str {i : Str} {v : V} (h : VW T is H (.str i) v) : v = .str i := by unfold VW RW at h; exact h
theorem VW.bl {i : Bool} {v : V} (h : VW T is H (.bl i) v) : v = .bl i := by unfold VW RW at h; exact h
theorem VW.non {v : V} (h : VW T is H .non v) : v = .non := by unfold VW RW at h; exact h
theorem VW.tup {xs : List Wv} {v : V} (h : VW T is H (.tup xs) v) : ∃ a ys, v = .ref a ∧ SqT T.K H a ys ∧ RWs T is H xs ys := by unfold VW RW at h; exact h
theorem VW.lst {xs : List Wv} {v : V} (h : VW T is H (.lst xs) v) : ∃ a ys, v = .ref a ∧ Rd H a (.lst ys) ∧ RWs T is H xs ys := by unfold VW at h; exact h
theorem Rd.sq {K : PySem.W.Frag} {H : Hp} {a : Addr} {ys : List V} (h : Rd H a (.lst ys)) : SqL K H a ys := .inl h

/-- behind a rule's end another one -/
theorem EP_mono {pins : List (Addr × Obj)} {σ : L2.St} {Q Q' : VK} {u : Value} {s' : Shared} (h : EP X pins σ Q u s') (q : ∀ v H', Q v H' → Q' v H') : EP X pins σ Q' u s' := by
  obtain ⟨v, H', I, r, z⟩ := h
  exact ⟨v, H', I, r, q v H' z⟩
/-- a new list, locked for good -/
def Qf (Q : VK) : VK := fun v H' => ∃ p ys, v = .ref p ∧ H' p = some (.lst ys) ∧ ∀ od, Q v (upd H' p (.frz od (.lst ys)))
theorem EP_lock {pins : List (Addr × Obj)} {σ : L2.St} {Q : VK} {u : Value} {s' : Shared} (h : EP X pins σ (Qf Q) u s') : EP X pins σ Q u s' := by
  obtain ⟨v, H', I, r, p, ys, e, hp, q⟩ := h
  obtain ⟨od, I'⟩ := I.lock hp trivial
  exact ⟨v, _, I', r, q od⟩
/-- .. as the store sees it -/
theorem lock_rs (hS : RS T S is H) {p : Addr} {ys : List V} {od : Obj} (np : H p = none) : RS T S is (upd (upd H p (.lst ys)) p (.frz od (.lst ys))) ∧ Fr S is H S is (upd (upd H p (.lst ys)) p (.frz od (.lst ys))) := by
  rw [upd_upd]
  exact ⟨hS.new np, .new hS np⟩
theorem RW.lst_new {xs : List Wv} {ys : List V} {p : Addr} {od : Obj} (hS : RS T S is H) (np : H p = none) (r : RWs T is H xs ys) : RW T is (upd (upd H p (.lst ys)) p (.frz od (.lst ys))) (.lst xs) (.ref p) := by
  unfold RW
  exact ⟨p, ys, rfl, ⟨od, upd_same⟩, RWs.fr hS (lock_rs hS np).2 xs ys r⟩
theorem RW.tup_new {xs : List Wv} {ys : List V} {p : Addr} (hS : RS T S is H) (np : H p = none) (r : RWs T is H xs ys) : RW T is (upd H p (.tup ys)) (.tup xs) (.ref p) := by
  unfold RW
  exact ⟨p, ys, rfl, SqT.of upd_same, RWs.fr hS (.new hS np) xs ys r⟩

/-! ### + - * // % ** -/
theorem add_lists_any {K : PySem.W.Frag} {x y : V} {Q : VK} {pins : List (Addr × Obj)} {sh : Shared} {σ : L2.St} {v u : Value} (I : Inv X pins σ H sh) (rx : RelV x v) (ry : RelV y u)
    (h : ∃ l b xs zs, x = .ref l ∧ y = .ref b ∧ Rd H l (.lst xs) ∧ Rd H b (.lst zs) ∧ xs.length + zs.length ≤ sizeLine ∧ ∀ p, H p = none → Q (.ref p) (upd H p (.lst (xs ++ zs)))) :
    wpAny (model X.prog X.w) X.A (binaryOp .Add v u) (EP X pins σ Q) X.xe sh := by
  obtain ⟨l, b, xs, zs, rfl, rfl, hl, hb, hz, q⟩ := h
  cases rx
  cases ry
  obtain ⟨_, its, n, r, e⟩ := hl.ok I.hok
  obtain ⟨_, its2, n2, r2, e2⟩ := hb.ok I.hok
  have l1 := r.length
  have l2 := r2.length
  refine PySem.P.add_list e e2 ?_ (by rw [List.size_toArray, List.size_toArray]; omega)
  have ea : its.toArray ++ its2.toArray = (its ++ its2).toArray := by simp
  rw [ea]
  refine ⟨.ref sh.heap.objs.size, _, I.laid (t' := sh.toks) (o := .lst (xs ++ zs)) (fun _ _ e => Heap.get?_push_of_some _ e) (Nat.le_refl _) ⟨by rw [List.length_append]; omega, _, 0, r.append r2, Heap.get?_push_size _ rfl⟩, rfl, q _ (I.hok.fresh (Nat.le_refl _))⟩

theorem o_add (hK : X.K = T.K) : OpR X (binaryOp .Add) (r2 T E fun x y S => R.of (binW .add S x y) S) := by
  intro pins sh σ H x y v u Q I rx ry ⟨S, is, a, b, hS, ha, hb, hp⟩
  obtain ⟨w, e, q⟩ := R.post_of hp
  have va := hS.view ha
  have vb := hS.view hb
  unfold binW at e
  generalize Pe.view S a = a' at e va
  generalize Pe.view S b = b' at e vb
  cases a' <;> cases b' <;> simp only [binV, reduceCtorEq] at e
  · cases va.int
    cases vb.int
    cases e
    exact op_add pins sh σ H _ _ _ _ _ I rx ry ⟨_, _, rfl, rfl, q is H _ hS .rfl' rfl⟩
  · cases va.str
    cases vb.str
    split at e
    · rename_i hl
      cases e
      exact op_add_str pins sh σ H _ _ _ _ _ I rx ry ⟨_, _, rfl, rfl, hl, q is H _ hS .rfl' rfl⟩
    · cases e
  · obtain ⟨p, xs, rfl, hp1, r1⟩ := va.tup
    obtain ⟨p2, ys, rfl, hp2, r2⟩ := vb.tup
    split at e
    · rename_i hl
      cases e
      rw [r1.length, r2.length] at hl
      rw [← hK] at hp1 hp2
      refine op_catA pins sh σ H _ _ _ _ _ I rx ry ⟨p, p2, xs, ys, rfl, rfl, hp1, hp2, hl, fun z => ?_, fun _ z => ?_, fun _ _ n hn => ?_⟩
      · subst z
        refine q is H _ hS .rfl' ?_
        unfold RW
        exact ⟨p2, ys, rfl, hK ▸ hp2, by
          have := r1.append r2
          simpa using this⟩
      · subst z
        refine q is H _ hS .rfl' ?_
        unfold RW
        exact ⟨p, xs, rfl, hK ▸ hp1, by
          have := r1.append r2
          simpa using this⟩
      · exact q is _ _ (hS.new hn) (.new hS hn) (.tup_new hS hn (r1.append r2))
    · cases e
  · obtain ⟨p, xs, rfl, hp1, r1⟩ := va.lst
    obtain ⟨p2, ys, rfl, hp2, r2⟩ := vb.lst
    split at e
    · rename_i hl
      cases e
      rw [r1.length, r2.length] at hl
      refine thn (add_lists_any (K := T.K) (Q := Qf Q) I rx ry ⟨p, p2, xs, ys, rfl, rfl, hp1, hp2, hl, fun n hn => ⟨n, _, rfl, upd_same, fun od => ?_⟩⟩) fun _ _ z => EP_lock z
      exact q is _ _ (lock_rs hS hn).1 (lock_rs hS hn).2 (.lst_new hS hn (r1.append r2))
    · cases e
theorem o_sub : OpR X (binaryOp .Sub) (r2 T E fun x y S => R.of (binW .sub S x y) S) := by
  intro pins sh σ H x y v u Q I rx ry ⟨S, is, a, b, hS, ha, hb, hp⟩
  obtain ⟨w, e, q⟩ := R.post_of hp
  have va := hS.view ha
  have vb := hS.view hb
  unfold binW at e
  generalize Pe.view S a = a' at e va
  generalize Pe.view S b = b' at e vb
  cases a' <;> cases b' <;> simp only [binV, reduceCtorEq] at e
  cases va.int
  cases vb.int
  cases e
  exact op_sub pins sh σ H _ _ _ _ _ I rx ry ⟨_, _, rfl, rfl, q is H _ hS .rfl' rfl⟩
theorem RWs.rep {xs : List Wv} {ys : List V} (h : RWs T is H xs ys) : ∀ n : Nat, RWs T is H (List.replicate n xs).flatten (List.replicate n ys).flatten
  | 0 => .nil
  | n + 1 => by
    rw [List.replicate_succ, List.replicate_succ, List.flatten_cons, List.flatten_cons]
    exact h.append (h.rep n)
theorem o_mul (hK : X.K = T.K) : OpR X (binaryOp .Mult) (r2 T E fun x y S => R.of (binW .mul S x y) S) := by
  intro pins sh σ H x y v u Q I rx ry ⟨S, is, a, b, hS, ha, hb, hp⟩
  obtain ⟨w, e, q⟩ := R.post_of hp
  have va := hS.view ha
  have vb := hS.view hb
  unfold binW at e
  generalize Pe.view S a = a' at e va
  generalize Pe.view S b = b' at e vb
  cases a' <;> cases b' <;> simp only [binV, reduceCtorEq] at e
  · cases va.int
    cases vb.int
    split at e
    · rename_i hl
      cases e
      exact op_mulW pins sh σ H _ _ _ _ _ I rx ry ⟨_, _, rfl, rfl, hl, q is H _ hS .rfl' rfl⟩
    · cases e
  · cases vb.int
    split at e
    · rename_i xs k hl
      cases e
      obtain ⟨a1, xs1, rfl, h1, r1⟩ := va.tup
      obtain ⟨h2, h3, h4, h5⟩ := hl
      refine op_repT pins sh σ H _ _ _ _ _ I rx ry ⟨a1, k, xs1, rfl, rfl, hK ▸ h1, fun z => ?_, h2, h3, by rw [← r1.length]; exact h4, fun p np => q is _ _ (hS.new np) (.new hS np) (.tup_new hS np (r1.rep k.toNat))⟩
      subst z
      have := r1.length
      rw [List.length_nil] at this
      rw [List.length_eq_zero_iff.mp this] at h5
      cases h5
    · cases e
theorem o_mod : OpR X (binaryOp .Mod) (r2 T E fun x y S => R.of (binW .mod S x y) S) := by
  intro pins sh σ H x y v u Q I rx ry ⟨S, is, a, b, hS, ha, hb, hp⟩
  obtain ⟨w, e, q⟩ := R.post_of hp
  have va := hS.view ha
  have vb := hS.view hb
  unfold binW at e
  generalize Pe.view S a = a' at e va
  generalize Pe.view S b = b' at e vb
  cases a' <;> cases b' <;> simp only [binV, reduceCtorEq] at e
  cases va.int
  cases vb.int
  split at e
  · rename_i hl
    cases e
    exact op_mod pins sh σ H _ _ _ _ _ I rx ry ⟨_, _, rfl, rfl, hl, q is H _ hS .rfl' rfl⟩
  · cases e
theorem o_fdiv : OpR X (binaryOp .FloorDiv) (r2 T E fun x y S => R.of (binW .fdiv S x y) S) := by
  intro pins sh σ H x y v u Q I rx ry ⟨S, is, a, b, hS, ha, hb, hp⟩
  obtain ⟨w, e, q⟩ := R.post_of hp
  have va := hS.view ha
  have vb := hS.view hb
  unfold binW at e
  generalize Pe.view S a = a' at e va
  generalize Pe.view S b = b' at e vb
  cases a' <;> cases b' <;> simp only [binV, reduceCtorEq] at e
  cases va.int
  cases vb.int
  split at e
  · rename_i hl
    cases e
    exact op_fdivW pins sh σ H _ _ _ _ _ I rx ry ⟨_, _, rfl, rfl, hl, q is H _ hS .rfl' rfl⟩
  · cases e
theorem o_pow : OpR X (binaryOp .Pow) (r2 T E fun x y S => R.of (binW .pow S x y) S) := by
  intro pins sh σ H x y v u Q I rx ry ⟨S, is, a, b, hS, ha, hb, hp⟩
  obtain ⟨w, e, q⟩ := R.post_of hp
  have va := hS.view ha
  have vb := hS.view hb
  unfold binW at e
  generalize Pe.view S a = a' at e va
  generalize Pe.view S b = b' at e vb
  cases a' <;> cases b' <;> simp only [binV, reduceCtorEq] at e
  cases va.int
  cases vb.int
  split at e
  · rename_i hl
    cases e
    exact op_pow pins sh σ H _ _ _ _ _ I rx ry ⟨_, _, rfl, rfl, hl, q is H _ hS .rfl' rfl⟩
  · cases e
end Pe

set_option Elab.async false
set_option linter.all false
set_option maxRecDepth 100000
/-! Comparisons. -/
namespace Pe
open PySem PySem.Spec PyProof.Rows L2
variable {T : Tb} {E : XK} {X : Cx} {S S1 S2 : Sto} {is is1 is2 : List Addr} {H H1 H2 : Hp} {s : L2.St}

mutual
/-- pure data, as the library reads it -/
theorem dp_of {K : PySem.W.Frag} (hK : K = T.K) : ∀ (w : Wv) (v : V), w.dat = true → RW T is H w v → Dp K H v w.toD
  | .non, v, _, h => by cases RW.inj_non h; exact .non
  | .bl b, v, _, h => by cases RW.inj_bl h; exact .bl b
  | .int i, v, _, h => by cases RW.inj_int h; exact .int i
  | .str x, v, _, h => by cases RW.inj_str h; exact .str x
  | .tup xs, v, d, h => by
    unfold RW at h
    obtain ⟨a, ys, rfl, q, r⟩ := h
    exact .tup (hK ▸ q) (dps_of hK xs ys (by simpa [Wv.dat] using d) r)
  | .lst xs, v, d, h => by
    unfold RW at h
    obtain ⟨a, ys, rfl, q, r⟩ := h
    exact .lst q.sq (dps_of hK xs ys (by simpa [Wv.dat] using d) r)
  | .unb, _, d, _ => by simp [Wv.dat] at d
  | .ref _, _, d, _ => by simp [Wv.dat] at d
  | .cls _, _, d, _ => by simp [Wv.dat] at d
  | .scr _, _, d, _ => by simp [Wv.dat] at d
theorem dps_of {K : PySem.W.Frag} (hK : K = T.K) : ∀ (ws : List Wv) (vs : List V), datAll ws = true → RWs T is H ws vs → DpAll K H vs (toDs ws)
  | [], vs, _, h => by unfold RWs at h; subst h; exact .nil
  | w :: ws, vs, d, h => by
    unfold RWs at h
    obtain ⟨y, r, rfl, q, t⟩ := h
    have d' : w.dat = true ∧ datAll ws = true := by simpa [datAll] using d
    exact .cons (dp_of hK w y d'.1 q) (dps_of hK ws r d'.2 t)
end
theorem dp_view {K : PySem.W.Frag} (hK : K = T.K) {w : Wv} {v : V} (d : w.dat = true) (h : VW T is H w v) : Dp K H v w.toD := by
  cases w with
  | lst xs =>
    obtain ⟨a, ys, rfl, q, r⟩ := h.lst
    exact .lst (.inl q) (dps_of hK xs ys (by simpa [Wv.dat] using d) r)
  | _ => exact dp_of hK _ v d (by unfold VW at h; exact h)
theorem rd_list {pins : List (Addr × Obj)} {σ : L2.St} {sh : Shared} {a : Addr} {ys : List V} (I : Inv X pins σ H sh) (h : Rd H a (.lst ys)) : ∃ its : List Value, Vals ys its ∧ sh.heap.IsList a its.toArray := by
  obtain ⟨its, r, p, _⟩ := I.list (a := a) (xs := ys) (.inl h)
  exact ⟨its, r, p.isList⟩

theorem eqD_ok {a b : Wv} {k : Bool} (h : eqD a b = some k) : a.dat = true ∧ b.dat = true ∧ a.toD.canLay0 = true ∧ b.toD.canLay0 = true ∧ min a.toD.depth b.toD.depth ≤ 190 ∧ k = PyData.eqv a.toD b.toD := by
  unfold eqD at h
  split at h
  · rename_i c
    cases h
    exact ⟨c.1, c.2.1, c.2.2.1, c.2.2.2.1, c.2.2.2.2, rfl⟩
  · cases h
/-- == and != by content -/
theorem eqV2_run (hK : X.K = T.K) (hu : X.A.units + 200 < cLine) {pins : List (Addr × Obj)} {σ : L2.St} {sh : Shared} {x y : V} {v u : Value} {a b : Wv} {k : Bool} (I : Inv X pins σ H sh) (rx : RelV x v) (ry : RelV y u)
    (va : VW T is H a x) (vb : VW T is H b y) (e : eqV2 a b = some k) :
    (∀ {Q : Value → Shared → Prop} {E' : Value → Shared → Prop}, Q (.bool k) sh → wpAny (model X.prog X.w) X.A (compareOp .Eq v u) Q E' sh) ∧ (∀ {Q : Value → Shared → Prop} {E' : Value → Shared → Prop}, Q (.bool (!k)) sh → wpAny (model X.prog X.w) X.A (compareOp .NotEq v u) Q E' sh) := by
  have byD : ∀ k, eqD a b = some k → (∀ {Q : Value → Shared → Prop} {E' : Value → Shared → Prop}, Q (.bool k) sh → wpAny (model X.prog X.w) X.A (compareOp .Eq v u) Q E' sh) ∧ (∀ {Q : Value → Shared → Prop} {E' : Value → Shared → Prop}, Q (.bool (!k)) sh → wpAny (model X.prog X.w) X.A (compareOp .NotEq v u) Q E' sh) := fun k e => by
    obtain ⟨d1, d2, c1, c2, hd, rfl⟩ := eqD_ok e
    obtain ⟨as, r1⟩ := Dp.reads I _ _ _ (dp_view hK d1 va) rx
    obtain ⟨bs, r2⟩ := Dp.reads I _ _ _ (dp_view hK d2 vb) ry
    have hr : X.A.units + min a.toD.depth b.toD.depth < cLine := by omega
    exact ⟨fun q => SeqAt.compareEq_reads r1 r2 c1 c2 hr q, fun q => SeqAt.compareNe_reads r1 r2 c1 c2 hr q⟩
  unfold eqV2 at e
  split at e
  · rename_i xs ys
    split at e
    · exact byD k e
    · rename_i hl
      cases e
      obtain ⟨p, zs, rfl, hp, r⟩ := va.lst
      obtain ⟨p2, us, rfl, hp2, r2⟩ := vb.lst
      cases rx
      cases ry
      obtain ⟨its, rv, hL⟩ := rd_list I hp
      obtain ⟨its2, rv2, hL2⟩ := rd_list I hp2
      have hsz : (its.toArray.size != its2.toArray.size) = true := by
        rw [List.size_toArray, List.size_toArray, ← rv.length, ← rv2.length, ← r.length, ← r2.length]
        simpa using hl
      exact ⟨fun q => SeqAt.eq_list_lengthsAt hL hL2 hsz (by omega) q, fun q => SeqAt.RcNeAt.lists_lengths hL hL2 hsz (by omega) _ _ _ _ q⟩
  · exact byD k e
theorem eqW_run (hK : X.K = T.K) (hu : X.A.units + 200 < cLine) {pins : List (Addr × Obj)} {σ : L2.St} {sh : Shared} {x y : V} {v u : Value} {a b : Wv} {k : Bool} (I : Inv X pins σ H sh) (rx : RelV x v) (ry : RelV y u)
    (hS : RS T S is H) (ha : RW T is H a x) (hb : RW T is H b y) (e : eqW S a b = some k) :
    (∀ {Q : Value → Shared → Prop} {E' : Value → Shared → Prop}, Q (.bool k) sh → wpAny (model X.prog X.w) X.A (compareOp .Eq v u) Q E' sh) ∧ (∀ {Q : Value → Shared → Prop} {E' : Value → Shared → Prop}, Q (.bool (!k)) sh → wpAny (model X.prog X.w) X.A (compareOp .NotEq v u) Q E' sh) := by
  unfold eqW at e
  split at e
  · cases e
    cases RW.inj_int ha
    cases RW.inj_int hb
    obtain ⟨t, rfl⟩ := rx
    obtain ⟨t', rfl⟩ := ry
    exact ⟨fun q => PyProof.Rows.eq_int (by rw [Bool.beq_eq_decide_eq]; exact q), fun q => PyProof.Rows.ne_int (by rw [bne, Bool.beq_eq_decide_eq]; exact q)⟩
  · rename_i x' y'
    cases e
    cases RW.inj_str ha
    cases RW.inj_str hb
    obtain ⟨t, rfl⟩ := rx
    obtain ⟨t', rfl⟩ := ry
    have e1 : decide (x' = y') = (x' == y') := by rw [Bool.eq_iff_iff]; simp
    exact ⟨fun q => SeqAt.RcAt.str_str x' t y' t' _ _ _ _ (by rw [← e1]; exact q), fun q => SeqAt.RcNeAt.str_str x' t y' t' _ _ _ _ (by rw [← e1]; exact q)⟩
  · exact eqV2_run hK hu I rx ry (hS.view ha) (hS.view hb) e
theorem q_bl {pins : List (Addr × Obj)} {σ : L2.St} {sh : Shared} {k : Bool} {Q : VK} (I : Inv X pins σ H sh) (hS : RS T S is H) (q : qW T S is H Q (.bl k) S) : EP X pins σ Q (.bool k) sh :=
  ⟨.bl k, H, I, rfl, q is H _ hS .rfl' (by unfold RW; rfl)⟩
theorem o_eq (hK : X.K = T.K) (hu : X.A.units + 200 < cLine) : OpR X (compareOp .Eq) (r2 T E fun x y S => R.of ((cmpW .eq S x y).map Wv.bl) S) := by
  intro pins sh σ H x y v u Q I rx ry ⟨S, is, a, b, hS, ha, hb, hp⟩
  obtain ⟨w, e, q⟩ := R.post_of hp
  obtain ⟨k, e1, rfl⟩ := Option.map_eq_some_iff.mp e
  exact (eqW_run hK hu I rx ry hS ha hb e1).1 (q_bl I hS q)
theorem o_ne (hK : X.K = T.K) (hu : X.A.units + 200 < cLine) : OpR X (compareOp .NotEq) (r2 T E fun x y S => R.of ((cmpW .ne S x y).map Wv.bl) S) := by
  intro pins sh σ H x y v u Q I rx ry ⟨S, is, a, b, hS, ha, hb, hp⟩
  obtain ⟨w, e, q⟩ := R.post_of hp
  obtain ⟨k, e1, rfl⟩ := Option.map_eq_some_iff.mp e
  obtain ⟨k2, e2, rfl⟩ := Option.map_eq_some_iff.mp e1
  exact (eqW_run hK hu I rx ry hS ha hb e2).2 (q_bl I hS q)
theorem o_lt : OpR X (compareOp .Lt) (r2 T E fun x y S => R.of ((cmpW .lt S x y).map Wv.bl) S) := by
  intro pins sh σ H x y v u Q I rx ry ⟨S, is, a, b, hS, ha, hb, hp⟩
  obtain ⟨w, e, q⟩ := R.post_of hp
  obtain ⟨k, e1, rfl⟩ := Option.map_eq_some_iff.mp e
  simp only [cmpW] at e1
  split at e1
  · cases e1
    cases RW.inj_int ha
    cases RW.inj_int hb
    exact op_lt pins sh σ H _ _ _ _ _ I rx ry ⟨_, _, rfl, rfl, q is H _ hS .rfl' rfl⟩
  · cases e1
    cases RW.inj_str ha
    cases RW.inj_str hb
    exact op_lt_str pins sh σ H _ _ _ _ _ I rx ry ⟨_, _, rfl, rfl, q is H _ hS .rfl' rfl⟩
  · cases e1
theorem o_le : OpR X (compareOp .LtE) (r2 T E fun x y S => R.of ((cmpW .le S x y).map Wv.bl) S) := by
  intro pins sh σ H x y v u Q I rx ry ⟨S, is, a, b, hS, ha, hb, hp⟩
  obtain ⟨w, e, q⟩ := R.post_of hp
  obtain ⟨k, e1, rfl⟩ := Option.map_eq_some_iff.mp e
  simp only [cmpW] at e1
  split at e1
  · cases e1
    cases RW.inj_int ha
    cases RW.inj_int hb
    exact op_le pins sh σ H _ _ _ _ _ I rx ry ⟨_, _, rfl, rfl, q is H _ hS .rfl' rfl⟩
  · cases e1
theorem o_gt : OpR X (compareOp .Gt) (r2 T E fun x y S => R.of ((cmpW .gt S x y).map Wv.bl) S) := by
  intro pins sh σ H x y v u Q I rx ry ⟨S, is, a, b, hS, ha, hb, hp⟩
  obtain ⟨w, e, q⟩ := R.post_of hp
  obtain ⟨k, e1, rfl⟩ := Option.map_eq_some_iff.mp e
  simp only [cmpW] at e1
  split at e1
  · cases e1
    cases RW.inj_int ha
    cases RW.inj_int hb
    exact op_gt pins sh σ H _ _ _ _ _ I rx ry ⟨_, _, rfl, rfl, q is H _ hS .rfl' rfl⟩
  · cases e1
theorem o_ge : OpR X (compareOp .GtE) (r2 T E fun x y S => R.of ((cmpW .ge S x y).map Wv.bl) S) := by
  intro pins sh σ H x y v u Q I rx ry ⟨S, is, a, b, hS, ha, hb, hp⟩
  obtain ⟨w, e, q⟩ := R.post_of hp
  obtain ⟨k, e1, rfl⟩ := Option.map_eq_some_iff.mp e
  simp only [cmpW] at e1
  split at e1
  · cases e1
    cases RW.inj_int ha
    cases RW.inj_int hb
    exact op_ge pins sh σ H _ _ _ _ _ I rx ry ⟨_, _, rfl, rfl, q is H _ hS .rfl' rfl⟩
  · cases e1

/-! ### is -/
theorem isW_ok {a b : Wv} {k : Bool} {x y : V} (e : isW a b = some k) (ha : RW T is H a x) (hb : RW T is H b y) : (y = .non ∧ k = decide (x = .non)) ∨ ∃ p q, x = .bl p ∧ y = .bl q ∧ k = decide (p = q) := by
  unfold isW at e
  split at e
  · cases RW.inj_non hb
    refine .inl ⟨rfl, ?_⟩
    split at e
    · cases e
    · cases e
      cases RW.inj_non ha
      rfl
    · rename_i n1 n2
      cases e
      cases a with
      | unb => exact absurd rfl n1
      | non => exact absurd rfl n2
      | bl b => cases RW.inj_bl ha; rfl
      | int b => cases RW.inj_int ha; rfl
      | str b => cases RW.inj_str ha; rfl
      | tup b => unfold RW at ha; obtain ⟨_, _, rfl, _⟩ := ha; rfl
      | lst b => unfold RW at ha; obtain ⟨_, _, rfl, _⟩ := ha; rfl
      | scr b => unfold RW at ha; obtain ⟨_, _, rfl, _⟩ := ha; rfl
      | ref b => unfold RW at ha; obtain ⟨_, rfl, _⟩ := ha; rfl
      | cls b => unfold RW at ha; subst ha; rfl
  · cases e
    rename_i p q
    cases RW.inj_bl ha
    cases RW.inj_bl hb
    exact .inr ⟨p, q, rfl, rfl, by rw [Bool.eq_iff_iff]; simp⟩
  · cases e
theorem o_is : OpR X (compareOp .Is) (r2 T E fun x y S => R.of ((cmpW .is S x y).map Wv.bl) S) := by
  intro pins sh σ H x y v u Q I rx ry ⟨S, is, a, b, hS, ha, hb, hp⟩
  obtain ⟨w, e, q⟩ := R.post_of hp
  obtain ⟨k, e1, rfl⟩ := Option.map_eq_some_iff.mp e
  rcases isW_ok (show isW a b = some k from e1) ha hb with ⟨rfl, rfl⟩ | ⟨p, p2, rfl, rfl, rfl⟩
  · exact op_isN pins sh σ H _ _ _ _ _ I rx ry ⟨rfl, q is H _ hS .rfl' (by unfold RW; rfl)⟩
  · exact op_isBl pins sh σ H _ _ _ _ _ I rx ry ⟨_, _, rfl, rfl, q is H _ hS .rfl' (by unfold RW; rfl)⟩
theorem o_isnot : OpR X (compareOp .IsNot) (r2 T E fun x y S => R.of ((cmpW .isnot S x y).map Wv.bl) S) := by
  intro pins sh σ H x y v u Q I rx ry ⟨S, is, a, b, hS, ha, hb, hp⟩
  obtain ⟨w, e, q⟩ := R.post_of hp
  obtain ⟨k, e1, rfl⟩ := Option.map_eq_some_iff.mp e
  obtain ⟨k2, e2, rfl⟩ := Option.map_eq_some_iff.mp e1
  rcases isW_ok (show isW a b = some k2 from e2) ha hb with ⟨rfl, rfl⟩ | ⟨p, p2, rfl, rfl, rfl⟩
  · exact op_notN pins sh σ H _ _ _ _ _ I rx ry ⟨rfl, q is H _ hS .rfl' (by unfold RW; rfl)⟩
  · exact op_notBl pins sh σ H _ _ _ _ _ I rx ry ⟨_, _, rfl, rfl, q is H _ hS .rfl' (by unfold RW; rfl)⟩
end Pe

set_option Elab.async false
set_option linter.all false
set_option maxRecDepth 100000
/-! Membership, subscripts. -/
namespace Pe
open PySem PySem.Spec PyProof.Rows L2
variable {T : Tb} {E : XK} {X : Cx} {S S1 S2 : Sto} {is is1 is2 : List Addr} {H H1 H2 : Hp} {s : L2.St}

theorem flat_of {w : Wv} {v : V} (h : RW T is H w v) (f : flatW w = true) : flatV v = true := by
  cases w with
  | non => cases RW.inj_non h; rfl
  | bl b => cases RW.inj_bl h; rfl
  | int b => cases RW.inj_int h; rfl
  | str b => cases RW.inj_str h; rfl
  | _ => cases f
theorem eqF_of {w z : Wv} {v u : V} (h : RW T is H w v) (q : RW T is H z u) (f : flatW w = true) (g : flatW z = true) : eqF w z = eqV v u := by
  cases w with
  | non => cases RW.inj_non h; cases z with
    | non => cases RW.inj_non q; rfl
    | bl b => cases RW.inj_bl q; rfl
    | int b => cases RW.inj_int q; rfl
    | str b => cases RW.inj_str q; rfl
    | _ => cases g
  | bl b => cases RW.inj_bl h; cases z with
    | non => cases RW.inj_non q; rfl
    | bl b => cases RW.inj_bl q; rfl
    | int b => cases RW.inj_int q; rfl
    | str b => cases RW.inj_str q; rfl
    | _ => cases g
  | int b => cases RW.inj_int h; cases z with
    | non => cases RW.inj_non q; rfl
    | bl b => cases RW.inj_bl q; rfl
    | int b => cases RW.inj_int q; rfl
    | str b => cases RW.inj_str q; rfl
    | _ => cases g
  | str b => cases RW.inj_str h; cases z with
    | non => cases RW.inj_non q; rfl
    | bl b => cases RW.inj_bl q; rfl
    | int b => cases RW.inj_int q; rfl
    | str b => cases RW.inj_str q; rfl
    | _ => cases g
  | _ => cases f
theorem flats_of : ∀ {ws : List Wv} {vs : List V}, RWs T is H ws vs → ws.all flatW = true → vs.all flatV = true
  | [], vs, h, _ => by unfold RWs at h; rw [h]; rfl
  | w :: ws, vs, h, f => by
    unfold RWs at h
    obtain ⟨y, r, rfl, q, t⟩ := h
    rw [List.all_cons, Bool.and_eq_true] at f
    rw [List.all_cons, flat_of q f.1, flats_of t f.2]
    rfl
theorem any_of {z : Wv} {u : V} (q : RW T is H z u) (g : flatW z = true) : ∀ {ws : List Wv} {vs : List V}, RWs T is H ws vs → ws.all flatW = true → (ws.any fun y => eqF y z) = inV u vs
  | [], vs, h, _ => by unfold RWs at h; rw [h]; rfl
  | w :: ws, vs, h, f => by
    unfold RWs at h
    obtain ⟨y, r, rfl, q1, t⟩ := h
    rw [List.all_cons, Bool.and_eq_true] at f
    have ih := any_of q g t f.2
    unfold inV at ih ⊢
    rw [List.any_cons, List.any_cons, eqF_of q1 q f.1 g, ih]
theorem key_of {w : Wv} {k : Key} {v : V} (h : RW T is H w v) (e : keyOf w = some k) : v = kV k := by
  cases w with
  | int i => cases e; exact RW.inj_int h
  | str i => cases e; exact RW.inj_str h
  | _ => cases e
theorem look_of : ∀ {kvs : List (Key × Wv)} {ys : List (Key × V)} (k : Key), RKs T is H kvs ys → (∀ w, lookK kvs k = some w → ∃ v, valV ys k = some v ∧ RW T is H w v) ∧ (lookK kvs k = none → valV ys k = none)
  | [], ys, k, h => by unfold RKs at h; rw [h]; exact ⟨fun w e => by simp [lookK] at e, fun _ => rfl⟩
  | p :: r, ys, k, h => by
    unfold RKs at h
    obtain ⟨y, t, rfl, q, h2⟩ := h
    have ih := look_of k h2
    unfold lookK
    by_cases e : p.1 = k
    · rw [if_pos e]
      rw [valV_pos (p := (p.1, y)) e]
      exact ⟨fun w z => by cases z; exact ⟨y, rfl, q⟩, fun z => by cases z⟩
    · rw [if_neg e]
      rw [valV_neg (p := (p.1, y)) e]
      exact ih

/-- x in c, as compareOp has it; neg: not in -/
theorem in_run (hK : X.K = T.K) (hu : X.A.units + 200 < cLine) (neg : Bool) {pins : List (Addr × Obj)} {σ : L2.St} {sh : Shared} {x y : V} {v u : Value} {a b : Wv} {k : Bool} {Q : VK} (I : Inv X pins σ H sh) (rx : RelV x v) (ry : RelV y u)
    (hS : RS T S is H) (ha : RW T is H a x) (hb : RW T is H b y) (e : inW S a b = some k) (q : Q (.bl (if neg = true then !k else k)) H) :
    wpAny (model X.prog X.w) X.A (compareOp (if neg = true then .NotIn else .In) v u) (EP X pins σ Q) X.xe sh := by
  have list_case : ∀ (xs : List Wv) (p : Addr) (ys : List V), y = .ref p → (SqL X.K H p ys ∨ SqT X.K H p ys) → RWs T is H xs ys → flatW a = true → xs.all flatW = true → (xs.any fun y => eqF y a) = k →
      wpAny (model X.prog X.w) X.A (compareOp (if neg = true then .NotIn else .In) v u) (EP X pins σ Q) X.xe sh := fun xs p ys ey hp r f1 f2 e => by
    rw [any_of ha f1 r f2] at e
    cases neg with
    | false => exact op_in_seq pins sh σ H _ _ _ _ _ I rx ry ⟨p, ys, ey, hp, flat_of ha f1, flats_of r f2, by rw [e]; exact q⟩
    | true => exact op_notIn_seq pins sh σ H _ _ _ _ _ I rx ry ⟨p, ys, ey, hp, flat_of ha f1, flats_of r f2, by rw [e]; exact q⟩
  have data_case : ∀ (xs : List Wv) (p : Addr) (ys : List V), y = .ref p → SqL X.K H p ys → RWs T is H xs ys → a.dat = true → datAll xs = true → SeqAt.shaped a.toD = true → SeqAt.shaped (.list (toDs xs)) = true → ((toDs xs).any fun z => PyData.eqv z a.toD) = k →
      wpAny (model X.prog X.w) X.A (compareOp (if neg = true then .NotIn else .In) v u) (EP X pins σ Q) X.xe sh := fun xs p ys ey hp r d1 d2 s1 s2 e => by
    subst ey
    have g1 := dp_of hK a x d1 ha
    have g2 : Dp X.K H (.ref p) (.list (toDs xs)) := .lst hp (dps_of hK xs ys d2 r)
    cases neg with
    | false => exact op_inD (by omega) pins sh σ H _ _ _ _ _ I rx ry ⟨_, _, g1, g2, s1, s2, by rw [e]; exact q⟩
    | true => exact op_notInD (by omega) pins sh σ H _ _ _ _ _ I rx ry ⟨_, _, g1, g2, s1, s2, by rw [e]; exact q⟩
  unfold inW at e
  split at e
  · rename_i z
    split at e
    · rename_i y'
      split at e
      · rename_i c ec
        cases e
        cases RW.inj_str ha
        cases RW.inj_str hb
        have ey : y' = ⟨#[c]⟩ := by
          obtain ⟨cps⟩ := y'
          have : cps = #[c] := by
            have := congrArg List.toArray ec
            simpa using this
          rw [this]
        subst ey
        cases neg with
        | false => exact op_in_sign pins sh σ H _ _ _ _ _ I rx ry ⟨c, z, rfl, rfl, q⟩
        | true => exact op_notIn_sign pins sh σ H _ _ _ _ _ I rx ry ⟨c, z, rfl, rfl, q⟩
      · cases e
    · cases e
  · rename_i xs
    split at e
    · rename_i f
      unfold RW at hb
      obtain ⟨p, ys, ey, hp, r⟩ := hb
      exact list_case xs p ys ey (.inr (hK ▸ hp)) r f.1 f.2 (Option.some.inj e)
    · cases e
  · rename_i xs
    unfold RW at hb
    obtain ⟨p, ys, ey, hp, r⟩ := hb
    split at e
    · rename_i f
      exact list_case xs p ys ey (.inl hp.sq) r f.1 f.2 (Option.some.inj e)
    · split at e
      · rename_i f
        exact data_case xs p ys ey hp.sq r f.1 f.2.1 f.2.2.1 f.2.2.2 (Option.some.inj e)
      · cases e
  · rename_i l
    unfold RW at hb
    obtain ⟨p, ey, hp⟩ := hb
    split at e
    · rename_i xs el
      obtain ⟨ys, e3, r⟩ := hS.ob l _ p el hp
      split at e
      · rename_i f
        exact list_case xs p ys ey (.inl (SqL.of e3)) r f.1 f.2 (Option.some.inj e)
      · split at e
        · rename_i f
          exact data_case xs p ys ey (SqL.of e3) r f.1 f.2.1 f.2.2.1 f.2.2.2 (Option.some.inj e)
        · cases e
    · rename_i kvs el
      obtain ⟨ys, e3, r⟩ := hS.ob l _ p el hp
      obtain ⟨kk, ek, e⟩ := Option.map_eq_some_iff.mp e
      subst ey
      cases key_of ha ek
      obtain rfl : u = Value.ref p := ry
      have hk : (valV ys kk).isSome = k := by
        rw [← e]
        cases el2 : lookK kvs kk with
        | none => rw [(look_of kk r).2 el2]; rfl
        | some w => obtain ⟨v', h1, _⟩ := (look_of kk r).1 w el2; rw [h1]; rfl
      cases neg with
      | false => exact d_in (by omega) I (DGet.k (k := kk) e3) rx fun s3 I3 => ⟨.bl _, H, I3, rfl, by rw [hk]; exact q⟩
      | true => exact d_notIn (by omega) I (DGet.k (k := kk) e3) rx fun s3 I3 => ⟨.bl _, H, I3, rfl, by rw [hk]; exact q⟩
    · cases e
  · cases e
theorem o_in (hK : X.K = T.K) (hu : X.A.units + 200 < cLine) : OpR X (compareOp .In) (r2 T E fun x y S => R.of ((cmpW .isin S x y).map Wv.bl) S) := by
  intro pins sh σ H x y v u Q I rx ry ⟨S, is, a, b, hS, ha, hb, hp⟩
  obtain ⟨w, e, q⟩ := R.post_of hp
  obtain ⟨k, e1, rfl⟩ := Option.map_eq_some_iff.mp e
  exact in_run hK hu false I rx ry hS ha hb e1 (q is H _ hS .rfl' (by unfold RW; rfl))
theorem o_notin (hK : X.K = T.K) (hu : X.A.units + 200 < cLine) : OpR X (compareOp .NotIn) (r2 T E fun x y S => R.of ((cmpW .notin S x y).map Wv.bl) S) := by
  intro pins sh σ H x y v u Q I rx ry ⟨S, is, a, b, hS, ha, hb, hp⟩
  obtain ⟨w, e, q⟩ := R.post_of hp
  obtain ⟨k, e1, rfl⟩ := Option.map_eq_some_iff.mp e
  obtain ⟨k2, e2, rfl⟩ := Option.map_eq_some_iff.mp e1
  exact in_run hK hu true I rx ry hS ha hb e2 (q is H _ hS .rfl' (by unfold RW; rfl))

/-! ### subscripts -/
theorem atI_rel {xs : List Wv} {ys : List V} {k : Int} {w : Wv} (r : RWs T is H xs ys) (e : atI xs k = some w) : ∃ v, atI ys k = some v ∧ RW T is H w v := by
  unfold atI at e ⊢
  rw [← r.length]
  obtain ⟨j, e1, e2⟩ := Option.bind_eq_some_iff.mp e
  obtain ⟨y, h1, h2⟩ := r.get e2
  exact ⟨y, by rw [e1]; exact h1, h2⟩
theorem ix_any (hK : X.K = T.K) (hu : X.A.units + 200 < cLine) : IxR X (r2 T E fun x y S => R.of (idxW S x y) S) := by
  intro value slice pins sh σ H x y v u Q I rx ry ⟨S, is, a, b, hS, ha, hb, hp⟩ hs
  obtain ⟨w, e, q⟩ := R.post_of hp
  have va := hS.view ha
  unfold idxW at e
  split at e
  · rename_i xs k ev
    rw [ev] at va
    cases RW.inj_int hb
    obtain ⟨p, ys, rfl, hp, r⟩ := va.lst
    obtain ⟨z, h1, h2⟩ := atI_rel r e
    exact ix_list value slice pins sh σ H _ _ _ _ _ I rx ry ⟨p, ys, k, z, rfl, rfl, .inl hp, h1, q is H _ hS .rfl' h2⟩ hs
  · rename_i xs k ev
    rw [ev] at va
    cases RW.inj_int hb
    unfold VW RW at va
    obtain ⟨p, ys, rfl, hp, r⟩ := va
    obtain ⟨z, h1, h2⟩ := atI_rel r e
    have hq : SqL X.K H p ys := by
      rcases hp with ⟨o, hp⟩ | hp
      · exact .inl (.inr ⟨o, hp⟩)
      · rw [hK]; exact .inr hp
    exact ix_list value slice pins sh σ H _ _ _ _ _ I rx ry ⟨p, ys, k, z, rfl, rfl, hq, h1, q is H _ hS .rfl' h2⟩ hs
  · rename_i xs k ev
    rw [ev] at va
    cases RW.inj_int hb
    obtain ⟨p, ys, rfl, hp, r⟩ := va.tup
    obtain ⟨z, h1, h2⟩ := atI_rel r e
    exact ix_tup value slice pins sh σ H _ _ _ _ _ I rx ry ⟨p, ys, k, z, rfl, rfl, hK ▸ hp, h1, q is H _ hS .rfl' h2⟩ hs
  · rename_i z k ev
    rw [ev] at va
    cases RW.inj_int hb
    cases va.str
    split at e
    · rename_i hl
      obtain ⟨c, h1, rfl⟩ := Option.map_eq_some_iff.mp e
      exact ix_str value slice pins sh σ H _ _ _ _ _ I rx ry ⟨z, k, c, rfl, rfl, hl, h1, q is H _ hS .rfl' (by unfold RW; rfl)⟩ hs
    · cases e
  · rename_i k l ev
    rw [ev] at va
    unfold VW RW at va
    obtain ⟨p, rfl, hp⟩ := va
    split at e
    · rename_i kvs el
      obtain ⟨ys, e3, r⟩ := hS.ob l _ p el hp
      obtain ⟨kk, ek, e⟩ := Option.bind_eq_some_iff.mp e
      obtain ⟨z, h1, h2⟩ := (look_of kk r).1 w e
      cases key_of hb ek
      obtain rfl : v = Value.ref p := rx
      have g : DGet H p (kV kk) (some z) := by
        rw [← h1]
        exact DGet.k e3
      exact tail_any (dict_typeIs I g) slot_dict_getitem.lookup (d_getItem (by omega) I g ry fun w' s3 I3 rw' => ⟨z, H, I3, rw', q is H _ hS .rfl' h2⟩) hs
    · cases e
  · cases e
theorem e_idx (hK : X.K = T.K) (hu : X.A.units + 200 < cLine) {a b : Expr} {pos : Pos} {ma mb : Mw Wv} (ha : PE X a (tW T E ma)) (hb : PE X b (tW T E mb)) (hs : PlainIx b) :
    PE X (.Subscript a b pos) (tW T E fun r S => (ma r S).bind fun x S1 => (mb r S1).bind fun y S2 => R.of (idxW S2 x y) S2) := (pe_ix (ix_any hK hu) ha hb hs).weak fun s H Q h => tW_2 h
end Pe

set_option Elab.async false
set_option linter.all false
set_option maxRecDepth 100000
/-! Displays, new lists, slices, built-in functions. -/
namespace Pe
open PySem PySem.Spec PyProof.Rows L2
variable {T : Tb} {E : XK} {X : Cx} {S S1 S2 : Sto} {is is1 is2 : List Addr} {H H1 H2 : Hp} {s : L2.St}

/-! ### displays -/
theorem a_nil : PA X [] (tWs T E fun _ S => .ok [] S) := pa_nil.weak fun s H Q h => by
  obtain ⟨S, is, r, hS, hr, hp⟩ := h
  exact hp is H [] hS .rfl' .nil
theorem a_cons {e : Expr} {es : List Expr} {m : Mw Wv} {ms : Mw (List Wv)} (he : PE X e (tW T E m)) (hes : PA X es (tWs T E ms)) (hs : starEach (e :: es) X.env = (false, eval e X.env) :: starEach es X.env) :
    PA X (e :: es) (tWs T E fun r S => (m r S).bind fun x S1 => (ms r S1).bind fun xs S2 => .ok (x :: xs) S2) := (pa_cons he hes hs).weak fun s H Q h => by
  obtain ⟨S, is, r, hS, hr, hp⟩ := h
  refine ⟨S, is, r, hS, hr, R.post_mono (R.post_bind hp) (fun x S1 q is1 H1 v h1 f hv => ?_) fun _ _ _ z => z⟩
  refine ⟨S1, is1, r, h1, hr.fr hS f, R.post_mono (R.post_bind q) (fun xs S2 q2 is2 H2 vs h2 f2 hvs => ?_) fun _ _ _ z => z.fr f⟩
  exact q2 is2 H2 (v :: vs) h2 (f.trans f2) (.cons (RW.fr h1 f2 x v hv) hvs)
theorem e_tup {es : List Expr} {k : Nat} {pos : Pos} {ms : Mw (List Wv)} (h : PA X es (tWs T E ms)) : PE X (.Tuple es k pos) (tW T E fun r S => (ms r S).bind fun xs S1 => if xs.length ≤ line then .ok (.tup xs) S1 else .bad) := (pe_tup h).weak fun s H Q h => by
  refine tWs_mono (tWs_seq (k := fun _ xs S1 => if xs.length ≤ line then .ok (.tup xs) S1 else .bad) h) fun vs H1 q => ?_
  obtain ⟨S, is, r, ws, hS, hr, hw, hp⟩ := q
  dsimp only at hp
  split at hp
  · rename_i hl
    refine ⟨by rw [← hw.length]; exact hl, fun p np => ?_⟩
    exact hp is _ _ (hS.new np) (.new hS np) (.tup_new hS np hw)
  · exact hp.elim

/-! ### a new list -/
theorem adopt_ok {S' : Sto} {is' : List Addr} {H' : Hp} {xs : List Wv} {ys : List V} {p : Addr} (h' : RS T S' is' H') (f : Fr S is H S' is' H') (np : H p = none) (hp : H' p = some (.lst ys)) (nl : ¬ Liv S' is' p) (hr : RWs T is' H' xs ys) :
    RS T (S' ++ [.lst xs]) (is' ++ [p]) H' ∧ Fr S is H (S' ++ [.lst xs]) (is' ++ [p]) H' ∧ RW T (is' ++ [p]) H' (.ref S'.length) (.ref p) := by
  have fr0 : Fr S' is' H' S' (is' ++ [p]) H' := ⟨⟨[p], rfl⟩, fun b v e n => ⟨e, fun ⟨i, w, z1, z2, z3⟩ => n ⟨i, w, by
    have : i < is'.length := by rw [h'.len]; exact (List.getElem?_eq_some_iff.mp z2).1
    rw [List.getElem?_append_left this] at z1
    exact z1, z2, z3⟩⟩, fun b v e => ⟨v, e⟩⟩
  have rs := h'.adopt hp nl (show RO T (is' ++ [p]) H' p (.lst xs) from ⟨ys, hp, RWs.fr h' fr0 xs ys hr⟩)
  refine ⟨rs, ⟨?_, fun a o e n => ?_, f.there⟩, ?_⟩
  · obtain ⟨t, e⟩ := f.pre
    exact ⟨t ++ [p], by rw [e, List.append_assoc]⟩
  · obtain ⟨h1, h2⟩ := f.keep a o e n
    refine ⟨h1, fun ⟨i, w, z1, z2, z3⟩ => ?_⟩
    by_cases hi : i < is'.length
    · rw [List.getElem?_append_left hi] at z1
      rw [List.getElem?_append_left (by rw [← h'.len]; exact hi)] at z2
      exact h2 ⟨i, w, z1, z2, z3⟩
    · rw [List.getElem?_append_right (Nat.not_lt.mp hi)] at z1
      obtain ⟨h4, _⟩ := List.getElem?_eq_some_iff.mp z1
      have e0 : i - is'.length = 0 := by simpa using h4
      rw [e0] at z1
      have e1 : p = a := Option.some.inj z1
      subst e1
      rw [np] at e
      cases e
  · unfold RW
    exact ⟨p, rfl, by rw [← h'.len]; simp⟩
theorem frz_ok {S' : Sto} {is' : List Addr} {H' : Hp} {xs : List Wv} {ys : List V} {p : Addr} {od : Obj} (h' : RS T S' is' H') (f : Fr S is H S' is' H') (np : H p = none) (hp : H' p = some (.lst ys)) (nl : ¬ Liv S' is' p) (hr : RWs T is' H' xs ys) :
    RS T S' is' (upd H' p (.frz od (.lst ys))) ∧ Fr S is H S' is' (upd H' p (.frz od (.lst ys))) ∧ RW T is' (upd H' p (.frz od (.lst ys))) (.lst xs) (.ref p) := by
  refine ⟨h'.out nl hp trivial, ⟨f.pre, fun a o e n => ?_, fun a o e => ?_⟩, ?_⟩
  · obtain ⟨h1, h2⟩ := f.keep a o e n
    exact ⟨by rw [upd_ne (fun z => by subst z; rw [np] at e; cases e)]; exact h1, h2⟩
  · obtain ⟨o', e'⟩ := f.there a o e
    exact upd_there a o' e'
  · unfold RW
    exact ⟨p, ys, rfl, ⟨od, upd_same⟩, RWs.keep (keep_of_mut h' hp trivial) xs ys hr⟩
/-- kept in the store, or locked -/
theorem e_new {e : Expr} {bx : Bool} {m : Mw (List Wv)} (h : PE X e (tL T E m)) : PE X e (tW T E fun r S => (m r S).bind fun xs S1 => newL bx xs S1) := by
  refine ⟨fun pins sh σ H Q I hq => ?_⟩
  obtain ⟨S, is, r, hS, hr, hp⟩ := hq
  refine thn (h.run pins sh σ H (fun v H' => ∃ S' is' p ys xs, v = .ref p ∧ RS T S' is' H' ∧ Fr S is H S' is' H' ∧ H p = none ∧ H' p = some (.lst ys) ∧ ¬ Liv S' is' p ∧ RWs T is' H' xs ys ∧ (newL bx xs S').post (qW T S is H Q) (qX T E S is H)) I
    ⟨S, is, r, hS, hr, R.post_mono (R.post_bind hp) (fun xs S1 q is1 H1 p v h1 f nl np hp1 hv => ⟨S1, is1, p, v, xs, rfl, h1, f, np, hp1, nl, hv, q⟩) fun _ _ _ z => z⟩) fun u s' hz => ?_
  obtain ⟨v, H', I', rv, S', is', p, ys, xs, rfl, h1, f, np, hp1, nl, hv, q⟩ := hz
  unfold newL at q
  split at q
  · split at q
    · obtain ⟨g1, g2, g3⟩ := adopt_ok h1 f np hp1 nl hv
      exact ⟨.ref p, H', I', rv, q _ _ _ g1 g2 g3⟩
    · obtain ⟨od, I2⟩ := I'.lock hp1 trivial
      obtain ⟨g1, g2, g3⟩ := frz_ok (od := od) h1 f np hp1 nl hv
      exact ⟨.ref p, _, I2, rv, q _ _ _ g1 g2 g3⟩
  · exact q.elim
theorem l_new (hS : RS T S is H) {p : Addr} {ys : List V} {xs : List Wv} {Q : VK} (np : H p = none) (hr : RWs T is H xs ys) (q : qL T S is H Q xs S) : Q (.ref p) (upd H p (.lst ys)) :=
  q is _ p ys (hS.new np) (.new hS np) (fun l => (Liv.ne hS l np) rfl) np upd_same (RWs.fr hS (.new hS np) xs ys hr)
theorem e_dsp {es : List Expr} {pos : Pos} {ms : Mw (List Wv)} (h : PA X es (tWs T E ms)) : PE X (.List es pos) (tL T E fun r S => (ms r S).bind fun xs S1 => if xs.length ≤ line then .ok xs S1 else .bad) := (pe_lst h).weak fun s H Q h => by
  obtain ⟨S, is, r, hS, hr, hp⟩ := h
  refine ⟨S, is, r, hS, hr, R.post_mono (R.post_bind hp) (fun xs S1 q is1 H1 vs h1 f hv => ?_) fun _ _ _ z => z⟩
  split at q
  · rename_i hl
    refine ⟨by rw [← hv.length]; exact hl, fun p np => ?_⟩
    exact q is1 _ p vs (h1.new np) (f.trans (.new h1 np)) (fun l => (Liv.ne h1 l np) rfl) (f.free np) upd_same (RWs.fr h1 (.new h1 np) xs vs hv)
  · exact q.elim
/-- the check of a list's length is made twice -/
theorem newL_twice {bx : Bool} {m : Mw (List Wv)} : (fun r S => ((m r S).bind fun xs S1 => if xs.length ≤ line then R.ok xs S1 else .bad).bind fun xs S1 => newL bx xs S1) = fun r S => (m r S).bind fun xs S1 => newL bx xs S1 := by
  funext r S
  cases m r S with
  | ok xs S1 =>
    show (if xs.length ≤ line then R.ok xs S1 else .bad).bind (fun xs S1 => newL bx xs S1) = newL bx xs S1
    by_cases h : xs.length ≤ line
    · rw [if_pos h]; rfl
    · rw [if_neg h]; unfold newL; rw [if_neg h]; rfl
  | exc c v S1 => rfl
  | bad => rfl
theorem e_dsp2 {es : List Expr} {pos : Pos} {bx : Bool} {ms : Mw (List Wv)} (h : PA X es (tWs T E ms)) : PE X (.List es pos) (tW T E fun r S => (ms r S).bind fun xs S1 => newL bx xs S1) := by
  rw [← newL_twice]
  exact e_new (e_dsp h)

/-! ### built-in functions -/
theorem e_b1 {a : Expr} {x : Str} {id : String} {p pos : Pos} {ma : Mw Wv} {g : Wv → Sto → R Wv} (hc : CallR X (.builtin id) fun xs H Q => ∃ x, xs = [x] ∧ r1 T E g x H Q) (hg : Gl X x) (hm : X.mg x = none) (hv : bootBuiltins x = some (.builtin id)) (ha : PE X a (tW T E ma))
    (hn : x ≠ "__name__") (hdb : (x == ("__debug__" : Str)) = false) (hs : starEach [a] X.env = (false, eval a X.env) :: starEach [] X.env) (h2 : (backTo pos (starEach [] X.env)).any (·.1) = false) : PE X (.Call (.Name x p) [a] [] pos) (tW T E fun r S => (ma r S).bind fun x S1 => g x S1) :=
  (pe_callB hc hg hm hv (pa_cons ha pa_nil hs) hn hdb hs h2).weak fun s H Q h => tW_mono (tW_1 h) fun v H1 q => ⟨v, rfl, q⟩
theorem e_bT {a : Expr} {x : Str} {id : String} {p pos : Pos} {ma : Mw Wv} {g : Wv → Sto → R Wv} (hc : CallR X (.type id) fun xs H Q => ∃ x, xs = [x] ∧ r1 T E g x H Q) (hg : Gl X x) (hm : X.mg x = none) (hv : bootBuiltins x = some (.type id)) (ha : PE X a (tW T E ma))
    (hn : x ≠ "__name__") (hdb : (x == ("__debug__" : Str)) = false) (hs : starEach [a] X.env = (false, eval a X.env) :: starEach [] X.env) (h2 : (backTo pos (starEach [] X.env)).any (·.1) = false) : PE X (.Call (.Name x p) [a] [] pos) (tW T E fun r S => (ma r S).bind fun x S1 => g x S1) :=
  (pe_callTy hc hg hm hv (pa_cons ha pa_nil hs) hn hdb hs h2).weak fun s H Q h => tW_mono (tW_1 h) fun v H1 q => ⟨v, rfl, q⟩
/-- .. that makes a list -/
def r1L (T : Tb) (E : XK) (g : Wv → Sto → R (List Wv)) : V → Hp → VK → Prop := fun x H Q => ∃ S is a, RS T S is H ∧ RW T is H a x ∧ (g a S).post (qL T S is H Q) (qX T E S is H)
theorem tL_1 {ma : Mw Wv} {g : Wv → Sto → R (List Wv)} {Q : VK} (h : tL T E (fun r S => (ma r S).bind fun x S1 => g x S1) s H Q) : tW T E ma s H fun x H1 => r1L T E g x H1 Q := by
  obtain ⟨S, is, r, hS, hr, hp⟩ := h
  refine ⟨S, is, r, hS, hr, R.post_mono (R.post_bind hp) (fun x S1 q is1 H1 v h1 f hv => ⟨S1, is1, x, h1, hv, R.post_mono q (fun xs S2 z is2 H2 p ys h2 f2 nl np hp2 hw => ?_) fun _ _ _ z => z.fr f⟩) fun _ _ _ z => z⟩
  exact z is2 H2 p ys h2 (f.trans f2) nl (f.free np) hp2 hw
theorem e_bTL {a : Expr} {x : Str} {id : String} {p pos : Pos} {ma : Mw Wv} {g : Wv → Sto → R (List Wv)} (hc : CallR X (.type id) fun xs H Q => ∃ x, xs = [x] ∧ r1L T E g x H Q) (hg : Gl X x) (hm : X.mg x = none) (hv : bootBuiltins x = some (.type id)) (ha : PE X a (tW T E ma))
    (hn : x ≠ "__name__") (hdb : (x == ("__debug__" : Str)) = false) (hs : starEach [a] X.env = (false, eval a X.env) :: starEach [] X.env) (h2 : (backTo pos (starEach [] X.env)).any (·.1) = false) : PE X (.Call (.Name x p) [a] [] pos) (tL T E fun r S => (ma r S).bind fun x S1 => g x S1) :=
  (pe_callTy hc hg hm hv (pa_cons ha pa_nil hs) hn hdb hs h2).weak fun s H Q h => tW_mono (tL_1 h) fun v H1 q => ⟨v, rfl, q⟩
theorem e_bBL {a : Expr} {x : Str} {id : String} {p pos : Pos} {ma : Mw Wv} {g : Wv → Sto → R (List Wv)} (hc : CallR X (.builtin id) fun xs H Q => ∃ x, xs = [x] ∧ r1L T E g x H Q) (hg : Gl X x) (hm : X.mg x = none) (hv : bootBuiltins x = some (.builtin id)) (ha : PE X a (tW T E ma))
    (hn : x ≠ "__name__") (hdb : (x == ("__debug__" : Str)) = false) (hs : starEach [a] X.env = (false, eval a X.env) :: starEach [] X.env) (h2 : (backTo pos (starEach [] X.env)).any (·.1) = false) : PE X (.Call (.Name x p) [a] [] pos) (tL T E fun r S => (ma r S).bind fun x S1 => g x S1) :=
  (pe_callB hc hg hm hv (pa_cons ha pa_nil hs) hn hdb hs h2).weak fun s H Q h => tW_mono (tL_1 h) fun v H1 q => ⟨v, rfl, q⟩
end Pe

set_option Elab.async false
set_option linter.all false
set_option maxRecDepth 100000
/-! Built-in functions, types, methods by values. -/
namespace Pe
open PySem PySem.Spec PyProof.Rows L2
variable {T : Tb} {E : XK} {X : Cx} {S S1 S2 : Sto} {is is1 is2 : List Addr} {H H1 H2 : Hp} {s : L2.St}
abbrev One (r : V → Hp → VK → Prop) : List V → Hp → VK → Prop := fun xs H Q => ∃ x, xs = [x] ∧ r x H Q
theorem rw_int {i : Int} : RW T is H (.int i) (.int i) := by unfold RW; rfl
theorem rw_str {i : Str} : RW T is H (.str i) (.str i) := by unfold RW; rfl
theorem rw_bl {i : Bool} : RW T is H (.bl i) (.bl i) := by unfold RW; rfl
theorem rw_non : RW T is H .non .non := by unfold RW; rfl
theorem bls_of : ∀ {ws : List Wv} {bs : List Bool} {vs : List V}, blsOf ws = some bs → RWs T is H ws vs → vs = bs.map V.bl
  | [], bs, vs, e, h => by cases e; unfold RWs at h; exact h
  | w :: ws, bs, vs, e, h => by
    unfold RWs at h
    obtain ⟨y, r, rfl, q, t⟩ := h
    cases w with
    | bl b =>
      simp only [blsOf] at e
      obtain ⟨bs', e', rfl⟩ := Option.map_eq_some_iff.mp e
      rw [bls_of e' t, RW.inj_bl q]; rfl
    | _ => simp [blsOf] at e
theorem ints_of : ∀ {ws : List Wv} {bs : List Int} {vs : List V}, intsOf ws = some bs → RWs T is H ws vs → vs = bs.map V.int
  | [], bs, vs, e, h => by cases e; unfold RWs at h; exact h
  | w :: ws, bs, vs, e, h => by
    unfold RWs at h
    obtain ⟨y, r, rfl, q, t⟩ := h
    cases w with
    | int b =>
      simp only [intsOf] at e
      obtain ⟨bs', e', rfl⟩ := Option.map_eq_some_iff.mp e
      rw [ints_of e' t, RW.inj_int q]; rfl
    | _ => simp [intsOf] at e
theorem strs_of : ∀ {ws : List Wv} {bs : List Str} {vs : List V}, strsOf ws = some bs → RWs T is H ws vs → vs = bs.map V.str
  | [], bs, vs, e, h => by cases e; unfold RWs at h; exact h
  | w :: ws, bs, vs, e, h => by
    unfold RWs at h
    obtain ⟨y, r, rfl, q, t⟩ := h
    cases w with
    | str b =>
      simp only [strsOf] at e
      obtain ⟨bs', e', rfl⟩ := Option.map_eq_some_iff.mp e
      rw [strs_of e' t, RW.inj_str q]; rfl
    | _ => simp [strsOf] at e
theorem rws_strs : ∀ (bs : List Str), RWs T is H (bs.map Wv.str) (bs.map V.str)
  | [] => .nil
  | b :: bs => .cons rw_str (rws_strs bs)

mutual
theorem noDict : ∀ w : Wv, w.toD.hasDict = false
  | .non => rfl
  | .bl _ => rfl
  | .int _ => rfl
  | .str _ => rfl
  | .tup xs => by simp only [Wv.toD, PyData.hasDict]; exact noDicts xs
  | .lst xs => by simp only [Wv.toD, PyData.hasDict]; exact noDicts xs
  | .unb => rfl
  | .ref _ => rfl
  | .cls _ => rfl
  | .scr _ => rfl
theorem noDicts : ∀ ws : List Wv, PyData.hasDictAll (toDs ws) = false
  | [] => rfl
  | w :: ws => by simp only [toDs, PyData.hasDictAll, noDict w, noDicts ws, Bool.or_self]
end

theorem c_len (hK : X.K = T.K) : CallR X (.builtin "len") (One (r1 T E fun x S => R.of (pr1 .len S x) S)) := by
  intro pins sh σ H xs us Q I r ⟨x, exs, S, is, a, hS, ha, hp⟩
  subst exs
  obtain ⟨w, e, q⟩ := R.post_of hp
  have va := hS.view ha
  simp only [pr1] at e
  split at e
  · rename_i ys ev
    rw [ev] at va
    cases e
    obtain ⟨p, zs, rfl, hp, r'⟩ := va.lst
    rw [r'.length] at q
    exact call_len_seq pins sh σ H _ _ _ I r ⟨p, zs, rfl, .inl (.inl hp), q is H _ hS .rfl' rw_int⟩
  · rename_i ys ev
    rw [ev] at va
    cases e
    unfold VW RW at va
    obtain ⟨p, zs, rfl, hp, r'⟩ := va
    have hq : SqL X.K H p zs := by
      rcases hp with ⟨o, hp⟩ | hp
      · exact .inl (.inr ⟨o, hp⟩)
      · rw [hK]; exact .inr hp
    rw [r'.length] at q
    exact call_len_seq pins sh σ H _ _ _ I r ⟨p, zs, rfl, .inl hq, q is H _ hS .rfl' rw_int⟩
  · rename_i ys ev
    rw [ev] at va
    cases e
    obtain ⟨p, zs, rfl, hp, r'⟩ := va.tup
    rw [r'.length] at q
    exact call_len_seq pins sh σ H _ _ _ I r ⟨p, zs, rfl, .inr (hK ▸ hp), q is H _ hS .rfl' rw_int⟩
  · rename_i z ev
    rw [ev] at va
    cases va.str
    split at e
    · rename_i hl
      cases e
      exact call_len_str pins sh σ H _ _ _ I r ⟨z, rfl, hl, q is H _ hS .rfl' rw_int⟩
    · cases e
  · rename_i l ev
    rw [ev] at va
    unfold VW RW at va
    obtain ⟨p, rfl, hp⟩ := va
    split at e
    · rename_i kvs el
      cases e
      obtain ⟨ys, e3, r'⟩ := hS.ob l _ p el hp
      have hl : kvs.length = ys.length := by
        clear q hp ha el e3 ev
        induction kvs generalizing ys with
        | nil => unfold RKs at r'; rw [r']; rfl
        | cons k ks ih =>
          unfold RKs at r'
          obtain ⟨y, t, rfl, _, h2⟩ := r'
          rw [List.length_cons, List.length_cons, ih t h2]
      rw [hl] at q
      exact call_lenD pins sh σ H _ _ _ I r ⟨p, ys, rfl, e3, q is H _ hS .rfl' rw_int⟩
    · cases e
  · cases e
theorem c_abs : CallR X (.builtin "abs") (One (r1 T E fun x S => R.of (pr1 .abs S x) S)) := by
  intro pins sh σ H xs us Q I r ⟨x, exs, S, is, a, hS, ha, hp⟩
  subst exs
  obtain ⟨w, e, q⟩ := R.post_of hp
  simp only [pr1] at e
  split at e
  · cases e
    cases RW.inj_int ha
    exact call_abs pins sh σ H _ _ _ I r ⟨_, rfl, q is H _ hS .rfl' rw_int⟩
  · cases e
theorem c_all (hc : X.calm = true) : CallR X (.builtin "all") (One (r1 T E fun x S => R.of (pr1 .all S x) S)) := by
  intro pins sh σ H xs us Q I r ⟨x, exs, S, is, a, hS, ha, hp⟩
  subst exs
  obtain ⟨w, e, q⟩ := R.post_of hp
  have va := hS.view ha
  simp only [pr1] at e
  split at e
  · rename_i ys ev
    rw [ev] at va
    obtain ⟨bs, eb, rfl⟩ := Option.map_eq_some_iff.mp e
    obtain ⟨p, zs, rfl, hp, r'⟩ := va.lst
    cases bls_of eb r'
    exact cr_all hc pins sh σ H _ _ _ I r ⟨p, bs, rfl, .inl hp, q is H _ hS .rfl' rw_bl⟩
  · cases e
theorem c_any (hc : X.calm = true) : CallR X (.builtin "any") (One (r1 T E fun x S => R.of (pr1 .any S x) S)) := by
  intro pins sh σ H xs us Q I r ⟨x, exs, S, is, a, hS, ha, hp⟩
  subst exs
  obtain ⟨w, e, q⟩ := R.post_of hp
  have va := hS.view ha
  simp only [pr1] at e
  split at e
  · rename_i ys ev
    rw [ev] at va
    obtain ⟨bs, eb, rfl⟩ := Option.map_eq_some_iff.mp e
    obtain ⟨p, zs, rfl, hp, r'⟩ := va.lst
    cases bls_of eb r'
    exact cr_any hc pins sh σ H _ _ _ I r ⟨p, bs, rfl, .inl hp, q is H _ hS .rfl' rw_bl⟩
  · cases e
theorem c_sum (hc : X.calm = true) : CallR X (.builtin "sum") (One (r1 T E fun x S => R.of (pr1 .sum S x) S)) := by
  intro pins sh σ H xs us Q I r ⟨x, exs, S, is, a, hS, ha, hp⟩
  subst exs
  obtain ⟨w, e, q⟩ := R.post_of hp
  have va := hS.view ha
  simp only [pr1] at e
  split at e
  · rename_i ys ev
    rw [ev] at va
    obtain ⟨bs, eb, rfl⟩ := Option.map_eq_some_iff.mp e
    obtain ⟨p, zs, rfl, hp, r'⟩ := va.lst
    cases ints_of eb r'
    exact cr_sum hc pins sh σ H _ _ _ I r ⟨p, bs, rfl, .inl hp, q is H _ hS .rfl' rw_int⟩
  · cases e
theorem c_tuple (hK : X.K = T.K) : CallR X (.type "tuple") (One (r1 T E fun x S => R.of (pr1 .tuple S x) S)) := by
  intro pins sh σ H xs us Q I r ⟨x, exs, S, is, a, hS, ha, hp⟩
  subst exs
  obtain ⟨w, e, q⟩ := R.post_of hp
  have va := hS.view ha
  simp only [pr1] at e
  split at e
  · rename_i ys ev
    rw [ev] at va
    cases e
    obtain ⟨p, zs, rfl, hp, r'⟩ := va.lst
    exact call_tuple_of pins sh σ H _ _ _ I r ⟨p, zs, rfl, .inl ⟨.inl hp, fun l nl => q is _ _ (hS.new nl) (.new hS nl) (.tup_new hS nl r')⟩⟩
  · rename_i ys ev
    rw [ev] at va
    cases e
    obtain ⟨p, zs, rfl, hp, r'⟩ := va.tup
    refine call_tuple_of pins sh σ H _ _ _ I r ⟨p, zs, rfl, .inr ⟨hK ▸ hp, q is _ _ hS .rfl' ?_⟩⟩
    unfold RW
    exact ⟨p, zs, rfl, hp, r'⟩
  · cases e
theorem c_repr (hK : X.K = T.K) (hg : X.A.guards = some []) (hu : X.A.units + 200 < cLine) : CallR X (.builtin "repr") (One (r1 T E fun x S => R.of (pr1 .repr S x) S)) := by
  intro pins sh σ H xs us Q I r ⟨x, exs, S, is, a, hS, ha, hp⟩
  subst exs
  obtain ⟨w, e, q⟩ := R.post_of hp
  have va := hS.view ha
  simp only [pr1] at e
  generalize Pe.view S a = w' at e va
  split at e
  · rename_i hc
    cases e
    obtain ⟨u, rfl, ru⟩ := vals1 r
    have hd := dp_view hK hc.1 va
    obtain ⟨as, hr⟩ := Dp.reads I _ _ _ hd ru
    have q' := q is H _ hS .rfl' rw_str
    have byref : ∀ a, u = .ref a → wpAny (model X.prog X.w) X.A (call (.builtin "repr") [u]) (EP X pins σ Q) X.xe sh := fun a eu => by
      subst eu
      have noD : w'.toD.hasDict = false := by
        clear q q' hr hd va hc
        exact noDict w'
      refine repr_of_reads' hr hc.2.1 (PyData.noDict_hsm noD) hg (by omega) (fun _ _ e => e) (fun h' u tk hk => ?_) hc.2.2.1
      exact ⟨.str _, H, I.kept hk, ⟨_, rfl⟩, q'⟩
    cases w' with
    | non => cases va.non; cases (show u = Value.none from ru); exact PySem.P.repr_of_none ⟨.str _, H, I.tok _, ⟨_, rfl⟩, q'⟩
    | bl b => cases va.bl; cases (show u = Value.bool b from ru); exact PySem.P.repr_of_bool ⟨.str _, H, I.tok _, ⟨_, rfl⟩, q'⟩
    | int i =>
      cases va.int
      obtain ⟨t, rfl⟩ := ru
      exact PySem.P.repr_of_int (by simpa [Wv.toD, PyData.showable] using hc.2.1) ⟨.str _, H, I.tok _, ⟨_, rfl⟩, q'⟩
    | str z =>
      cases va.str
      obtain ⟨t, rfl⟩ := ru
      exact PySem.P.repr_of_str ⟨.str _, H, I.tok _, ⟨_, rfl⟩, q'⟩ hc.2.2.1
    | tup zs => obtain ⟨p, zs, rfl, _⟩ := va.tup; exact byref p ru
    | lst zs => obtain ⟨p, zs, rfl, _⟩ := va.lst; exact byref p ru
    | unb => exact absurd hc.1 (by simp [Wv.dat])
    | ref _ => exact absurd hc.1 (by simp [Wv.dat])
    | cls _ => exact absurd hc.1 (by simp [Wv.dat])
    | scr _ => exact absurd hc.1 (by simp [Wv.dat])
  · cases e
end Pe

set_option Elab.async false
set_option linter.all false
set_option maxRecDepth 100000
/-! Side conditions that the syntax alone decides. -/
namespace Pe
open PySem PySem.Spec PyProof.Rows L2

def notStar : Expr → Bool
  | .Starred .. => false
  | _ => true
theorem star_ok {e : Expr} {es : List Expr} {env : Env} (h : notStar e = true) : starEach (e :: es) env = (false, eval e env) :: starEach es env := by
  cases e <;> first | rfl | cases h
theorem star_all {env : Env} : ∀ {es : List Expr}, es.all notStar = true → starEach es env = es.map fun e => (false, eval e env)
  | [], _ => rfl
  | e :: es, h => by
    rw [List.all_cons, Bool.and_eq_true] at h
    rw [star_ok h.1, star_all h.2]
    rfl
theorem back_plain {es : List Expr} {env : Env} {pos : Pos} (h : es.all notStar = true) : (backTo pos (starEach es env)).any (·.1) = false := by
  rw [star_all h]
  unfold backTo
  rw [List.map_map, List.any_map]
  simp
theorem back_all {es : List Expr} {env : Env} {pos : Pos} (h : es.all notStar = true) : (backTo pos (starEach es env)).all (fun x => !x.1) = true := by
  rw [star_all h]
  unfold backTo
  rw [List.map_map, List.all_map]
  simp
def baseOk : Expr → Bool
  | .Call (.Name _ _) [] [] _ => false
  | _ => true
theorem base_ok {o : Expr} {m : Str} {env : Env} {w : Sem Value} (h : baseOk o = true) : attributeBase o m env w = w := by
  unfold attributeBase
  split
  · simp [baseOk] at h
  · rfl
theorem few_ok {es : List Expr} {env : Env} {pos : Pos} (h : es.all notStar = true) (hl : es.length < 29) :
    ((backTo pos (starEach es env)).all (fun x => !x.1) && (backToKw pos (keywordEach [] env)).all (fun x => x.1.isSome) && decide (es.length + ([] : List Keyword).length + (if ([] : List Keyword).isEmpty then 0 else 1) < 30)) = true := by
  rw [back_all h]
  simp [backToKw, keywordEach]
  omega
/-- no comprehension -/
def notComp : Expr → Bool
  | .ListComp .. => false
  | .SetComp .. => false
  | .DictComp .. => false
  | _ => true
theorem swap_ok {e : Expr} {t : Option Expr} {l : Nat} {env : Env} (h : notComp e = true) : swapsWith e t l env = pure false := by
  cases e <;> first | rfl | cases h
/-- a comprehension stored elsewhere than in a plain local of the same line -/
def compFar (sc : Scope) : Expr → Bool
  | .Name t _ => !(sc.names.lookup t == some .local)
  | _ => true
theorem swap_far {e tg : Expr} {l : Nat} {env : Env} (h : compFar env.scope tg = true) : swapsWith e (some tg) l env = pure false := by
  unfold swapsWith
  cases tg with
  | Name t pt =>
    have hk : (env.kindOf t == some NameKind.local) = false := by
      have h' : (!(env.kindOf t == some NameKind.local)) = true := h
      simpa using h'
    cases e <;> first | rfl | simp only [hk, Bool.and_false, Bool.false_and]
  | _ => cases e <;> rfl
theorem swaps_one {tg e : Expr} {l : Nat} {env : Env} : swapsWithSole [tg] e l env = swapsWith e (some tg) l env := rfl
/-- no tuple display is stored in a tuple of names -/
def notPar : Expr → Expr → Bool
  | .Tuple .., .Tuple .. => false
  | .List .., .Tuple .. => false
  | _, _ => true
theorem stores_none {tg e : Expr} {env : Env} (h : notPar tg e = true) : swappedStores [tg] e env = pure none := by
  unfold swappedStores
  cases tg <;> cases e <;> first | rfl | cases h
theorem folded_ok {e : Expr} {env : Env} {x : Value} (h : (match e with | .Set .. => false | _ => true) = true) : foldedSetIterable e env x = pure x := by
  cases e <;> first | rfl | cases h
theorem asg_one {tg : Expr} {env : Env} (h : notStar tg = true) : (assignEach [tg] env).map (·.2) = [assign tg env] := by
  cases tg <;> first | rfl | cases h
theorem asg_cons {tg : Expr} {ts : List Expr} {env : Env} (h : notStar tg = true) : (assignEach (tg :: ts) env).map (·.2) = assign tg env :: (assignEach ts env).map (·.2) := by
  cases tg <;> first | rfl | cases h
theorem asg_len {env : Env} : ∀ {ts : List Expr}, ts.all notStar = true → (assignEach ts env).length = ts.length ∧ (assignEach ts env).findIdx? (·.1) = none
  | [], _ => ⟨rfl, rfl⟩
  | t :: ts, h => by
    rw [List.all_cons, Bool.and_eq_true] at h
    obtain ⟨h1, h2⟩ := asg_len (env := env) h.2
    have e : assignEach (t :: ts) env = (false, assign t env) :: assignEach ts env := by
      have h3 := h.1
      cases t <;> first | rfl | cases h3
    rw [e]
    exact ⟨by rw [List.length_cons, List.length_cons, h1], by rw [List.findIdx?_cons]; simp [h2]⟩
def plainIxB : Expr → Bool
  | .Slice .. => false
  | _ => true
theorem plain_ix {e : Expr} (h : plainIxB e = true) : PlainIx e := fun o i => by
  cases e <;> first | rfl | cases h
end Pe

set_option Elab.async false
set_option linter.all false
set_option maxRecDepth 100000
/-! More built-in functions, isinstance, sorted, list, tests. -/
namespace Pe
open PySem PySem.Spec PyProof.Rows L2
variable {T : Tb} {E : XK} {X : Cx} {S S1 S2 : Sto} {is is1 is2 : List Addr} {H H1 H2 : Hp} {s : L2.St}

theorem c_str : CallR X (.type "str") (One (r1 T E fun x S => R.of (pr1 .str S x) S)) := by
  intro pins sh σ H xs us Q I r ⟨x, exs, S, is, a, hS, ha, hp⟩
  subst exs
  obtain ⟨w, e, q⟩ := R.post_of hp
  simp only [pr1] at e
  split at e
  · split at e
    · rename_i hl
      cases e
      cases RW.inj_int ha
      exact call_str_int pins sh σ H _ _ _ I r ⟨_, rfl, hl, q is H _ hS .rfl' rw_str⟩
    · cases e
  · cases e
    cases RW.inj_str ha
    exact SkE.call_str_str pins sh σ H _ _ _ I r ⟨_, rfl, q is H _ hS .rfl' rw_str⟩
  · cases e
theorem c_int : CallR X (.type "int") (One (r1 T E fun x S => R.of (pr1 .int S x) S)) := by
  intro pins sh σ H xs us Q I r ⟨x, exs, S, is, a, hS, ha, hp⟩
  subst exs
  obtain ⟨w, e, q⟩ := R.post_of hp
  simp only [pr1] at e
  split at e
  · cases e
    cases RW.inj_int ha
    exact call_int1 pins sh σ H _ _ _ I r (.inl ⟨_, rfl, q is H _ hS .rfl' rw_int⟩)
  · cases e
    cases RW.inj_bl ha
    exact call_int1 pins sh σ H _ _ _ I r (.inr ⟨_, rfl, q is H _ hS .rfl' rw_int⟩)
  · cases e
theorem c_bool : CallR X (.type "bool") (One (r1 T E fun x S => R.of (pr1 .bool S x) S)) := by
  intro pins sh σ H xs us Q I r ⟨x, exs, S, is, a, hS, ha, hp⟩
  subst exs
  obtain ⟨w, e, q⟩ := R.post_of hp
  simp only [pr1] at e
  split at e
  · cases e
    cases RW.inj_int ha
    exact call_bool1 pins sh σ H _ _ _ I r (.inl ⟨_, rfl, q is H _ hS .rfl' rw_bl⟩)
  · cases e
    cases RW.inj_bl ha
    exact call_bool1 pins sh σ H _ _ _ I r (.inr ⟨_, rfl, q is H _ hS .rfl' rw_bl⟩)
  · cases e
abbrev Two (r : R2) : List V → Hp → VK → Prop := fun xs H Q => ∃ x y, xs = [x, y] ∧ r x y H Q
theorem c_max (hc : X.calm = true) : CallR X (.builtin "max") (Two (r2 T E fun x y S => R.of (pr2 .max S x y) S)) := by
  intro pins sh σ H xs us Q I r ⟨x, y, exs, S, is, a, b, hS, ha, hb, hp⟩
  subst exs
  obtain ⟨w, e, q⟩ := R.post_of hp
  simp only [pr2] at e
  split at e
  · cases e
    cases RW.inj_int ha
    cases RW.inj_int hb
    exact call_max2 hc pins sh σ H _ _ _ I r ⟨_, _, rfl, q is H _ hS .rfl' rw_int⟩
  · cases e
theorem c_min (hc : X.calm = true) : CallR X (.builtin "min") (Two (r2 T E fun x y S => R.of (pr2 .min S x y) S)) := by
  intro pins sh σ H xs us Q I r ⟨x, y, exs, S, is, a, b, hS, ha, hb, hp⟩
  subst exs
  obtain ⟨w, e, q⟩ := R.post_of hp
  simp only [pr2] at e
  split at e
  · cases e
    cases RW.inj_int ha
    cases RW.inj_int hb
    exact call_min2 hc pins sh σ H _ _ _ I r ⟨_, _, rfl, q is H _ hS .rfl' rw_int⟩
  · cases e
/-- the call with two arguments -/
theorem e_b2 {a b : Expr} {x : Str} {id : String} {p pos : Pos} {ma mb : Mw Wv} {g : Wv → Wv → Sto → R Wv} (hc : CallR X (.builtin id) (Two (r2 T E g))) (hg : Gl X x) (hm : X.mg x = none) (hv : bootBuiltins x = some (.builtin id)) (ha : PE X a (tW T E ma)) (hb : PE X b (tW T E mb))
    (hn : x ≠ "__name__") (hdb : (x == ("__debug__" : Str)) = false) (hs : ([a, b].all notStar) = true) : PE X (.Call (.Name x p) [a, b] [] pos) (tW T E fun r S => (ma r S).bind fun x S1 => (mb r S1).bind fun y S2 => g x y S2) := by
  have h1 : notStar a = true := by simp at hs; exact hs.1
  have h2 : [b].all notStar = true := by simp at hs; simp [hs.2]
  refine (pe_callB hc hg hm hv (pa_cons ha (pa_cons hb pa_nil (star_ok (by simpa using h2))) (star_ok h1)) hn hdb (star_ok h1) (back_plain h2)).weak fun s H Q h => ?_
  exact tW_mono (tW_2 h) fun v H1 q => tW_mono q fun y H2 q => ⟨v, y, rfl, q⟩

/-! ### isinstance -/
def Ty.nm : Ty → String
  | .tuple => "tuple"
  | .list => "list"
  | .int => "int"
  | .bool => "bool"
  | .str => "str"
  | .own _ => ""
theorem ty_seq (hK : X.K = T.K) {a : Addr} {ys : List V} (h : SqT T.K H a ys) : TyX X.K H (.ref a) (.type "tuple") := by
  rcases h with (e | ⟨o, e⟩) | ⟨o, its, n, e, c, _⟩
  · exact .base (.tup e)
  · exact .fTuple e
  · rw [hK]; exact .kTuple e c
theorem ty_lst {a : Addr} {ys : List V} (h : Rd H a (.lst ys)) : TyX X.K H (.ref a) (.type "list") := by
  rcases h with e | ⟨o, e⟩
  · exact .base (.lst e)
  · exact .base (.frz e)
theorem ty_of (hK : X.K = T.K) {w : Wv} {x : V} (h : VW T is H w x) {t0 : Ty} {b0 : Bool} (e0 : isTy [] t0 w = some b0) : ∃ n, TyX X.K H x (.type n) ∧ ∀ t b, isTy [] t w = some b → kitB n t.nm = some b := by
  cases w with
  | non => cases h.non; refine ⟨"NoneType", .base .non, fun t b e => ?_⟩; cases t <;> cases e <;> decide +kernel
  | bl k => cases h.bl; refine ⟨"bool", .base (.bl _), fun t b e => ?_⟩; cases t <;> cases e <;> decide +kernel
  | int k => cases h.int; refine ⟨"int", .base (.int _), fun t b e => ?_⟩; cases t <;> cases e <;> decide +kernel
  | str k => cases h.str; refine ⟨"str", .base (.str _), fun t b e => ?_⟩; cases t <;> cases e <;> decide +kernel
  | tup xs => obtain ⟨p, ys, rfl, hp, _⟩ := h.tup; refine ⟨"tuple", ty_seq hK hp, fun t b e => ?_⟩; cases t <;> cases e <;> decide +kernel
  | lst xs => obtain ⟨p, ys, rfl, hp, _⟩ := h.lst; refine ⟨"list", ty_lst hp, fun t b e => ?_⟩; cases t <;> cases e <;> decide +kernel
  | unb => cases t0 <;> cases e0
  | ref l => cases t0 <;> simp [isTy, view] at e0
  | cls _ => cases t0 <;> cases e0
  | scr _ => cases t0 <;> cases e0
theorem isTy_view {S : Sto} {t : Ty} {w : Wv} {b : Bool} (e : isTy S t w = some b) : isTy [] t (view S w) = some b := by
  cases h : view S w with
  | ref l => unfold isTy at e; rw [h] at e; cases t <;> cases e
  | _ => unfold isTy at e ⊢; rw [h] at e; exact e
theorem ty_own (hK : X.K = T.K) {w : Wv} {x : V} {t0 : Ty} {b0 : Bool} (hS : RS T S is H) (h : RW T is H w x) (e : isTy S t0 w = some b0) : ∃ n, TyX X.K H x (.type n) ∧ ∀ t b, isTy S t w = some b → kitB n t.nm = some b := by
  obtain ⟨n, h1, h2⟩ := ty_of hK (hS.view h) (isTy_view e)
  exact ⟨n, h1, fun t b e => h2 t b (isTy_view e)⟩
theorem c_isi1 (hK : X.K = T.K) {t : Ty} : CallR X (.builtin "isinstance") fun xs H Q => ∃ x, xs = [x, .ty t.nm] ∧ r1 T E (fun x S => R.of ((isAny S x [t]).map Wv.bl) S) x H Q := by
  intro pins sh σ H xs us Q I r ⟨x, exs, S, is, a, hS, ha, hp⟩
  subst exs
  obtain ⟨w, e, q⟩ := R.post_of hp
  obtain ⟨b, e1, rfl⟩ := Option.map_eq_some_iff.mp e
  have e2 : isTy S t a = some b := by
    unfold isAny at e1
    obtain ⟨k, h1, h2⟩ := Option.bind_eq_some_iff.mp e1
    rw [h1]
    cases k with
    | true => exact h2
    | false => exact h2
  obtain ⟨n, h1, h2⟩ := ty_own hK hS ha e2
  exact call_isi pins sh σ H _ _ _ I r ⟨x, _, _, _, b, rfl, .ty _, h1, kit_ty (h2 _ _ e2), q is H _ hS .rfl' rw_bl⟩
theorem kit_all {K : PySem.W.Frag} {n : String} {a : Wv} (h : ∀ t b, isTy S t a = some b → kitB n t.nm = some b) : ∀ (ts : List Ty) {b : Bool}, isAny S a ts = some b → PySem.W.kitAny K (.type n) (ts.map fun t => .type t.nm) = some b
  | [], _, e => by cases e; exact kitAny_nil
  | t :: ts, b, e => by
    unfold isAny at e
    obtain ⟨k, h1, h2⟩ := Option.bind_eq_some_iff.mp e
    refine kitAny_cons (kit_ty (h _ _ h1)) (fun z => ?_) fun z => ?_
    · subst z
      exact kit_all h ts h2
    · subst z; cases h2; rfl
theorem cls_all : ∀ ts : List Ty, Paired ClsV (ts.map fun t => V.ty t.nm) (ts.map fun t => Value.type t.nm)
  | [] => .nil
  | t :: ts => .cons (.ty _) (cls_all ts)
theorem c_isiT (hK : X.K = T.K) {ts : List Ty} (hne : ts ≠ []) : CallR X (.builtin "isinstance") fun xs H Q => ∃ x p, xs = [x, .ref p] ∧ H p = some (.tup (ts.map fun t => V.ty t.nm)) ∧ r1 T E (fun x S => R.of ((isAny S x ts).map Wv.bl) S) x H Q := by
  intro pins sh σ H xs us Q I r ⟨x, p, exs, hp0, S, is, a, hS, ha, hp⟩
  subst exs
  obtain ⟨w, e, q⟩ := R.post_of hp
  obtain ⟨b, e1, rfl⟩ := Option.map_eq_some_iff.mp e
  have e2 : ∃ t b, isTy S t a = some b := by
    cases ts with
    | nil => exact absurd rfl hne
    | cons t ts =>
      unfold isAny at e1
      obtain ⟨k, h1, _⟩ := Option.bind_eq_some_iff.mp e1
      exact ⟨t, k, h1⟩
  obtain ⟨t0, b0, e2⟩ := e2
  obtain ⟨n, h1, h2⟩ := ty_own hK hS ha e2
  exact call_isiT pins sh σ H _ _ _ I r ⟨x, p, _, _, _, b, rfl, hp0, cls_all ts, h1, kit_all h2 ts e1, q is H _ hS .rfl' rw_bl⟩
/-- a type's name -/
def tyOk (X : Cx) (x : Str) (t : Ty) : Prop := Gl X x ∧ X.mg x = none ∧ bootBuiltins x = some (.type t.nm) ∧ x ≠ "__name__" ∧ (x == ("__debug__" : Str)) = false
theorem e_ty {x : Str} {t : Ty} {pos : Pos} (h : tyOk X x t) : PE X (.Name x pos) (tC (.ty t.nm)) := pe_bltn h.1 h.2.1 h.2.2.1 rfl h.2.2.2.1 h.2.2.2.2
theorem e_isi1 {a : Expr} {y : Str} {p p2 pos : Pos} {ma : Mw Wv} {t : Ty} (hK : X.K = T.K) (hg : Gl X "isinstance") (hm : X.mg "isinstance" = none) (ha : PE X a (tW T E ma)) (hy : tyOk X y t) (hs : notStar a = true) :
    PE X (.Call (.Name "isinstance" p) [a, .Name y p2] [] pos) (tW T E fun r S => (ma r S).bind fun x S1 => R.of ((isAny S1 x [t]).map Wv.bl) S1) :=
  (pe_callB (c_isi1 (T := T) (E := E) hK) hg hm (by decide +kernel) (pa_cons ha (pa_cons (e_ty hy) pa_nil rfl) (star_ok hs)) (by decide) (by decide) (star_ok hs) (back_plain rfl)).weak fun s H Q h =>
    tW_mono (tW_1 h) fun v H1 q => ⟨v, rfl, q⟩
/-- names of types, one after another -/
def tysOk (X : Cx) : List Expr → List Ty → Prop
  | [], [] => True
  | .Name y _ :: ys, t :: ts => tyOk X y t ∧ tysOk X ys ts
  | _, _ => False
theorem pa_tys : ∀ {ys : List Expr} {ts : List Ty}, tysOk X ys ts → PA X ys (fun _ H Q => Q (ts.map fun t => V.ty t.nm) H)
  | [], [], _ => pa_nil
  | .Name y p :: ys, t :: ts, h => by
    have z := pa_cons (e_ty (pos := p) h.1) (pa_tys h.2) (star_ok rfl)
    exact z
  | [], _ :: _, h => h.elim
  | e :: _, [], h => by cases e <;> exact h.elim
theorem e_isiT {a : Expr} {ys : List Expr} {k : Nat} {p p2 pos : Pos} {ma : Mw Wv} {ts : List Ty} (hK : X.K = T.K) (hg : Gl X "isinstance") (hm : X.mg "isinstance" = none) (ha : PE X a (tW T E ma)) (hy : tysOk X ys ts) (hne : ts ≠ []) (hl : ts.length ≤ 64) (hs : notStar a = true) :
    PE X (.Call (.Name "isinstance" p) [a, .Tuple ys k p2] [] pos) (tW T E fun r S => (ma r S).bind fun x S1 => R.of ((isAny S1 x ts).map Wv.bl) S1) :=
  (pe_callB (c_isiT (T := T) (E := E) hK hne) hg hm (by decide +kernel) (pa_cons ha (pa_cons (pe_tup (pa_tys hy)) pa_nil rfl) (star_ok hs)) (by decide) (by decide) (star_ok hs) (back_plain rfl)).weak fun s H Q h =>
    tW_mono (tW_1 h) fun v H1 q => by
      obtain ⟨S, is, w, hS, hw, hp⟩ := q
      have := sizeLine_eq
      refine ⟨by rw [List.length_map]; omega, fun p np => ⟨v, p, rfl, upd_same, S, is, w, hS.new np, RW.fr hS (.new hS np) w v hw, ?_⟩⟩
      exact R.post_mono hp (fun w S1 z is1 H1 x h1 f hx => z is1 H1 x h1 ((Fr.new hS np).trans f) hx) fun _ _ _ z is1 H1 d ys h1 f h2 h3 => z is1 H1 d ys h1 ((Fr.new hS np).trans f) h2 h3

/-! ### list(x), sorted(x), x[::-1], d.items() -/
abbrev gL (f : Sto → Wv → Option (List Wv)) (x : Wv) (S : Sto) : R (List Wv) := R.of (f S x) S
theorem keys_rel : ∀ {kvs : List (Key × Wv)} {ys : List (Key × V)}, RKs T is H kvs ys → RWs T is H (kvs.map fun p => keyW p.1) (ys.map fun p => kV p.1)
  | [], ys, h => by unfold RKs at h; rw [h]; exact .nil
  | p :: r, ys, h => by
    unfold RKs at h
    obtain ⟨y, t, rfl, _, h2⟩ := h
    refine .cons ?_ (keys_rel h2)
    obtain ⟨k, w⟩ := p
    cases k with
    | inl i => exact rw_int
    | inr x => exact rw_str
theorem c_list (hK : X.K = T.K) (hc : X.calm = true) : CallR X (.type "list") (One (r1L T E fun x S => R.of (itemsOf S x) S)) := by
  intro pins sh σ H xs us Q I r ⟨x, exs, S, is, a, hS, ha, hp⟩
  subst exs
  obtain ⟨w, e, q⟩ := R.post_of hp
  have va := hS.view ha
  unfold itemsOf at e
  split at e
  · rename_i ys ev
    rw [ev] at va
    cases e
    obtain ⟨p, zs, rfl, hp, r'⟩ := va.lst
    exact call_list_of pins sh σ H _ _ _ I r ⟨p, zs, rfl, .inl (.inl hp), fun l nl => l_new hS nl r' q⟩
  · rename_i ys ev
    rw [ev] at va
    cases e
    obtain ⟨p, zs, rfl, hp, r'⟩ := va.tup
    exact call_list_of pins sh σ H _ _ _ I r ⟨p, zs, rfl, .inr (hK ▸ hp), fun l nl => l_new hS nl r' q⟩
  · rename_i l ev
    rw [ev] at va
    unfold VW RW at va
    obtain ⟨p, rfl, hp⟩ := va
    split at e
    · rename_i kvs el
      cases e
      obtain ⟨ys, e3, r'⟩ := hS.ob l _ p el hp
      exact call_list_dK hc pins sh σ H _ _ _ I r ⟨p, ys, rfl, e3, fun l nl => l_new hS nl (keys_rel r') q⟩
    · cases e
  · cases e

/-- texts in order -/
def leS (x y : Str) : Prop := ¬ y.cps.toList < x.cps.toList
theorem leS_anti {x y : Str} (h : leS x y) (q : leS y x) : x = y := by
  have e : x.cps.toList = y.cps.toList := List.le_antisymm (List.not_lt.mp h) (List.not_lt.mp q)
  obtain ⟨a⟩ := x
  obtain ⟨b⟩ := y
  have : a = b := Array.toList_inj.mp e
  rw [this]
theorem leS_trans {x y z : Str} (h : leS x y) (q : leS y z) : leS x z := List.not_lt.mpr (List.le_trans (List.not_lt.mp h) (List.not_lt.mp q))
theorem leS_total (x y : Str) : leS x y ∨ leS y x := (List.le_total x.cps.toList y.cps.toList).imp List.not_lt.mpr List.not_lt.mpr
theorem insS_perm (x : Str) : ∀ xs : List Str, (insS x xs).Perm (x :: xs)
  | [] => .refl _
  | y :: r => by
    unfold insS
    split
    · exact ((insS_perm x r).cons y).trans (.swap x y r)
    · exact .refl _
theorem sortS_perm : ∀ xs : List Str, (sortS xs).Perm xs
  | [] => .refl _
  | x :: r => (insS_perm x _).trans ((sortS_perm r).cons x)
theorem insS_sorted (x : Str) : ∀ {xs : List Str}, xs.Pairwise leS → (insS x xs).Pairwise leS
  | [], _ => List.pairwise_singleton _ _
  | y :: r, h => by
    obtain ⟨h1, h2⟩ := List.pairwise_cons.mp h
    unfold insS
    split
    · rename_i hl
      refine List.pairwise_cons.mpr ⟨fun z hz => ?_, insS_sorted x h2⟩
      rcases List.mem_cons.mp ((insS_perm x r).mem_iff.mp hz) with e | e
      · subst e
        rcases leS_total y z with q | q
        · exact q
        · exact absurd hl q
      · exact h1 z e
    · rename_i hl
      refine List.pairwise_cons.mpr ⟨fun z hz => ?_, h⟩
      rcases List.mem_cons.mp hz with e | e
      · subst e; exact hl
      · exact leS_trans hl (h1 z e)
theorem sortS_sorted : ∀ xs : List Str, (sortS xs).Pairwise leS
  | [] => .nil
  | x :: r => insS_sorted x (sortS_sorted r)
theorem rising_pair : ∀ (xs : List Str) (p : Str), risingS p xs = true → (p :: xs).Pairwise leS
  | [], p, _ => List.pairwise_singleton _ _
  | x :: r, p, h => by
    unfold risingS at h
    have h' : (leS p x) ∧ risingS x r = true := by
      simp only [Bool.and_eq_true] at h
      refine ⟨?_, h.2⟩
      have z := h.1
      rw [ltCps_eq] at z
      unfold leS
      simpa using z
    have t := rising_pair r x h'.2
    refine List.pairwise_cons.mpr ⟨fun z hz => ?_, t⟩
    rcases List.mem_cons.mp hz with e | e
    · subst e; exact h'.1
    · exact leS_trans h'.1 ((List.pairwise_cons.mp t).1 z e)
theorem sorted_pair {xs : List Str} (h : sortedS xs = true) : xs.Pairwise leS := by
  cases xs with
  | nil => exact .nil
  | cons x r => exact rising_pair r x h
theorem sort_uniq {xs ys : List Str} (p : ys.Perm xs) (h : sortedS ys = true) : ys = sortS xs :=
  List.Perm.eq_of_pairwise (fun _ _ _ _ h1 h2 => leS_anti h1 h2) (sorted_pair h) (sortS_sorted xs) (p.trans (sortS_perm xs).symm)

/-- sorted of texts that a list or a tuple holds -/
theorem run_sortS {pins : List (Addr × Obj)} {σ : L2.St} {sh : Shared} {p : Addr} {xs : List Str} {t : String} {u : Value} {Q : VK} (hc : X.calm = true) (I : Inv X pins σ H sh) (ru : RelV (.ref p) u) (ht : t = "list" ∨ t = "tuple") (h64 : xs.length < 64)
    (hp : ∃ (ob : Obj) (its : List Value) (n : Nat), sh.heap.get? p = some ob ∧ ob.cls = .type t ∧ ob.data = .seq its.toArray n ∧ Vals (xs.map V.str) its)
    (q : ∀ r, H r = none → Q (.ref r) (upd H r (.lst ((sortS xs).map V.str)))) : wpAny (model X.prog X.w) X.A (call (.builtin "sorted") [u]) (EP X pins σ Q) X.xe sh := by
  obtain ⟨ob, its, n, h1, h2, h3, rv⟩ := hp
  obtain rfl : u = Value.ref p := ru
  have big := sizeLine_eq
  have il : its.length = xs.length := by rw [← rv.length, List.length_map]
  have hS : StrsAre its xs := rv.strs
  refine Calls.call_function_entry PyProof.Rows.kind_sorted PyProof.Rows.plain_sorted PyProof.Rows.entry_sorted (PyProof.Rows.args_sorted1 _) ?_
  unfold Builtin.«sorted»
  refine wpAny_bind (m := checkCount "sorted" 1 1 _) (wpAny_pure ?_)
  refine wpAny_bind (wpAny_collect_seq (A := X.A.in1) p ht h1 h2 h3 (fun h' hk => ?_) (by rw [List.size_toArray]; omega))
  rw [List.toList_toArray]
  have I1 : Inv X pins σ H { sh with heap := h' } := I.kept (t' := sh.toks) hk
  refine wpAny_bind (wpAny_newList ?_ (by omega))
  have hn : (h'.push (seqObj "list" its.toArray 0)).get? h'.objs.size = some (seqObj "list" its.toArray 0) := Heap.get?_push_size _ rfl
  show wpAny _ _ _ _ _ { sh with heap := h'.push (seqObj "list" its.toArray 0) }
  refine wpAny_bind (wpAny_holding (wpAny_call_entry PyProof.Rows.slot_list_sort ⟨_, hn, rfl⟩ PyProof.Rows.entry_list_sort
    (list_sort_treeK strKind_oneLt (s := { sh with heap := h'.push (seqObj "list" its.toArray 0) }) hn hS.keysOf (fun v₁ v₂ rest e => keyKind_strs (by rw [← e]; exact hS)) (by omega) fun st' g1 g2 => ⟨_, rfl, ?_⟩)
    (PyProof.Rows.args_list_sort _)))
  obtain ⟨ys, k1, k2, k3⟩ := sorted_out_str hS g1 g2
  cases sort_uniq k2 k3
  obtain ⟨ep, he⟩ := PyProof.Rows.sortedHeap_at (vs := its) (out := (arrOf st').map (·.2)) hn
  have hlen : ((sortS xs).map V.str).length ≤ sizeLine := by
    rw [List.length_map, (sortS_perm xs).length_eq]
    omega
  refine wpAny_pure ⟨_, rfl, .ref h'.objs.size, upd H h'.objs.size (.lst ((sortS xs).map V.str)), I1.laid (t' := sh.toks) (fun b ob e => ?_) (Nat.le_refl _)
    (show ObjOk X.prog X.w _ _ _ (.lst ((sortS xs).map V.str)) from ⟨hlen, ((arrOf st').map (·.2)).toList, ep, vals_of_strs k1, by rw [Array.toArray_toList]; exact he⟩), rfl, q _ (I1.hok.fresh (Nat.le_refl _))⟩
  have hb : b < h'.objs.size := Heap.lt_size e
  rw [PyProof.Rows.sortedHeap_old (Nat.ne_of_lt hb) (by rw [PyProof.Rows.size_push']; exact Nat.lt_succ_of_lt hb)]
  exact Heap.get?_push_of_some _ e
theorem keys_strs : ∀ {kvs : List (Key × Wv)} {ss : List Str} {ys : List (Key × V)}, strsOf (kvs.map fun p => keyW p.1) = some ss → RKs T is H kvs ys → ys.map (·.1) = ss.map Sum.inr
  | [], ss, ys, e, h => by unfold RKs at h; subst h; cases e; rfl
  | p :: r, ss, ys, e, h => by
    unfold RKs at h
    obtain ⟨y, t, rfl, _, h2⟩ := h
    obtain ⟨k, w⟩ := p
    cases k with
    | inl i => simp [keyW, strsOf] at e
    | inr x =>
      simp only [List.map_cons, keyW, strsOf] at e
      obtain ⟨t', e', rfl⟩ := Option.map_eq_some_iff.mp e
      rw [List.map_cons, List.map_cons, keys_strs e' h2]
theorem c_sorted (hK : X.K = T.K) (hc : X.calm = true) : CallR X (.builtin "sorted") (One (r1L T E fun x S => R.of ((itemsOf S x).bind sortW) S)) := by
  intro pins sh σ H xs us Q I r ⟨x, exs, S, is, a, hS, ha, hp⟩
  subst exs
  obtain ⟨w, e, q⟩ := R.post_of hp
  have va := hS.view ha
  obtain ⟨its, e1, e2⟩ := Option.bind_eq_some_iff.mp e
  unfold sortW at e2
  split at e2
  · rename_i h64
    obtain ⟨ss, e3, rfl⟩ := Option.map_eq_some_iff.mp e2
    obtain ⟨u, rfl, ru⟩ := vals1 r
    have fin : ∀ l, H l = none → Q (.ref l) (upd H l (.lst ((sortS ss).map V.str))) := fun l nl => l_new hS nl (rws_strs _) q
    have len : ∀ {zs : List V}, RWs T is H its zs → zs = ss.map V.str ∧ ss.length < 64 := fun {zs} rr => by
      have z := strs_of e3 rr
      refine ⟨z, ?_⟩
      have l := rr.length
      rw [z, List.length_map] at l
      omega
    unfold itemsOf at e1
    split at e1
    · rename_i ys ev
      rw [ev] at va
      cases e1
      obtain ⟨p, zs, rfl, hp, r'⟩ := va.lst
      obtain ⟨rfl, hl⟩ := len r'
      obtain ⟨vs, rv, ⟨ob, n, g1, g2, _, g3⟩, _⟩ := I.list (a := p) (.inl hp)
      exact run_sortS hc I ru (.inl rfl) hl ⟨ob, vs, n, g1, g2, g3, rv⟩ fin
    · rename_i ys ev
      rw [ev] at va
      cases e1
      obtain ⟨p, zs, rfl, hp, r'⟩ := va.tup
      obtain ⟨rfl, hl⟩ := len r'
      rw [← hK] at hp
      obtain ⟨vs, rv, ⟨ob, g1, g2, n, g3⟩, _⟩ := I.tuple hp
      exact run_sortS hc I ru (.inr rfl) hl ⟨ob, vs, n, g1, g2, g3, rv⟩ fin
    · rename_i l ev
      rw [ev] at va
      unfold VW RW at va
      obtain ⟨p, rfl, hp⟩ := va
      split at e1
      · rename_i kvs el
        cases e1
        obtain ⟨ys, e3', r'⟩ := hS.ob l _ p el hp
        have hk : ys.map (·.1) = ss.map Sum.inr := keys_strs e3 r'
        have hl : ss.length < 64 := by
          have z := congrArg List.length hk
          have z2 := (keys_rel r').length
          rw [List.length_map, List.length_map] at z z2
          rw [List.length_map] at h64
          omega
        exact call_sortedD hc pins sh σ H _ _ _ I r ⟨p, ys, ss, rfl, .inl e3', hk, hl, fun zs n g1 g2 nl => by
          cases sort_uniq g1 g2
          exact fin n nl⟩
      · cases e1
    · cases e1
  · cases e2
end Pe

set_option Elab.async false
set_option linter.all false
set_option maxRecDepth 100000
/-! Methods of lists and texts, slices, tests, and the rest of the expressions. -/
namespace Pe
open PySem PySem.Spec PyProof.Rows L2
variable {T : Tb} {E : XK} {X : Cx} {S S1 S2 : Sto} {is is1 is2 : List Addr} {H H1 H2 : Hp} {s : L2.St}

/-! ### list methods -/
def Mu.nm : Mu → Str
  | .append => "append"
  | .extend => "extend"
  | .pop => "pop"
  | .clear => "clear"
  | .reverse => "reverse"
def Mu.id : Mu → String
  | .append => "list.append"
  | .extend => "list.extend"
  | .pop => "list.pop"
  | .clear => "list.clear"
  | .reverse => "list.reverse"
theorem mu_slot (m : Mu) : Slot "list" m.nm m.id := by
  cases m
  · exact F.slot_list_append
  · exact F.slot_list_extend
  · exact F.slot_list_pop
  · exact F.slot_list_clear
  · exact F.slot_list_reverse
theorem mu_type (m : Mu) : typeOf (.builtin m.id) = pure (.type "method_descriptor") := by
  cases m
  · exact F.type_list_append
  · exact F.type_list_extend
  · exact F.type_list_pop
  · exact F.type_list_clear
  · exact F.type_list_reverse
/-- a list of the store is changed -/
theorem set_qW {l : Nat} {a : Addr} {xs : List Wv} {zs : List V} {ob : Ob} {Q : VK} {w : Wv} {v : V} (hS : RS T S is H) (el : S[l]? = some ob) (ha : is[l]? = some a) (lv : ob.live = true) (r : RWs T is H xs zs) (rv : RW T is H w v)
    (q : qW T S is H Q w (S.set l (.lst xs))) : Q v (upd H a (.lst zs)) := by
  obtain ⟨h1, f1⟩ := hS.write (o := .lst zs) (ob' := .lst xs) el ha lv fun f => ⟨zs, upd_same, RWs.fr hS f xs zs r⟩
  exact q is _ v h1 f1 (RW.fr hS f1 w v rv)
theorem RWs.dropLast : ∀ {xs : List Wv} {ys : List V}, RWs T is H xs ys → RWs T is H xs.dropLast ys.dropLast
  | [], ys, h => by unfold RWs at h; rw [h]; exact .nil
  | [x], ys, h => by
    unfold RWs at h
    obtain ⟨y, r, rfl, _, t⟩ := h
    unfold RWs at t
    rw [t]
    exact .nil
  | x :: z :: xs, ys, h => by
    unfold RWs at h
    obtain ⟨y, r, rfl, q, t⟩ := h
    have t' := t
    unfold RWs at t'
    obtain ⟨y2, r2, rfl, _, _⟩ := t'
    exact .cons q (RWs.dropLast t)
/-- extend by a list that may be locked -/
theorem mt_ext {pins : List (Addr × Obj)} {σ : L2.St} {sh : Shared} {l b : Addr} {xs zs : List V} {v u : Value} {Q : VK} (I : Inv X pins σ H sh) (rx : RelV (.ref l) v) (ru : RelV (.ref b) u) (hl : H l = some (.lst xs)) (hb : Rd H b (.lst zs)) (hz : xs.length + zs.length ≤ sizeLine)
    (q : Q .non (upd H l (.lst (xs ++ zs)))) : wpAny (model X.prog X.w) X.A (call (.builtin "list.extend") [v, u]) (EP X pins σ Q) X.xe sh := by
  obtain rfl : v = Value.ref l := rx
  obtain rfl : u = Value.ref b := ru
  obtain ⟨_, its, n, r, el, e⟩ := I.lstM hl
  obtain ⟨z2, its2, n2, r2, e2⟩ := hb.ok I.hok
  have el2 := r2.length
  have fit : its.toArray.size + its2.toArray.size ≤ sizeLine := by rw [List.size_toArray, List.size_toArray]; omega
  refine call_meets F.slot_list_extend ⟨_, e, rfl⟩ F.entry_list_extend (F.args_list_extend_2 _ _)
    (AutoSeq1.list_extend_list_list_0 l its.toArray n b its2.toArray n2 (by rw [notLongL fit, Bool.and_false]; exact Bool.false_ne_true) (by rw [List.size_toArray]; omega) (by omega)) ⟨e, e2, ?_⟩
  exact ⟨.non, _, I.lset (its' := its ++ its2) hl e (by simp) (r.append r2) (by rw [List.length_append]; omega), rfl, q⟩
/-- o.append(..) and the like -/
def rM (T : Tb) (E : XK) (m : Mu) : V → List V → Hp → VK → Prop := fun x vs H Q => ∃ S is a bs, RS T S is H ∧ RW T is H a x ∧ RWs T is H bs vs ∧ (mut1 m S a bs).post (qW T S is H Q) (qX T E S is H)
theorem mut1_ref {m : Mu} {a : Wv} {bs : List Wv} {f : Wv → Sto → Prop} {g : Nat → List (Nat × Wv) → Sto → Prop} (h : (mut1 m S a bs).post f g) : ∃ l xs, a = .ref l ∧ S[l]? = some (.lst xs) := by
  cases a with
  | ref l =>
    cases e : S[l]? with
    | none => cases m <;> (simp only [mut1, e] at h; exact h.elim)
    | some ob =>
      cases ob with
      | lst xs => exact ⟨l, xs, rfl, e⟩
      | _ => cases m <;> (simp only [mut1, e] at h; exact h.elim)
  | _ => cases m <;> exact h.elim
theorem rws_one {b : Wv} {vs : List V} (h : RWs T is H [b] vs) : ∃ y, vs = [y] ∧ RW T is H b y := by
  unfold RWs at h
  obtain ⟨y, r, rfl, q, t⟩ := h
  unfold RWs at t
  exact ⟨y, by rw [t], q⟩
theorem rws_nil {vs : List V} (h : RWs T is H [] vs) : vs = [] := by
  unfold RWs at h
  exact h
theorem mu_run (m : Mu) : MtR X m.id (rM T E m) := by
  intro pins sh σ H x vs v us Q I rx rv ⟨S, is, a, bs, hS, ha, hb, hp⟩
  obtain ⟨l, xs, rfl, el⟩ := mut1_ref hp
  unfold RW at ha
  obtain ⟨p, rfl, hl⟩ := ha
  obtain ⟨ys, e3, r⟩ := hS.ob l _ p el hl
  cases m with
  | append =>
    simp only [mut1, el] at hp
    match bs, hb, hp with
    | [b], hb, hp =>
      obtain ⟨y, rfl, rb⟩ := rws_one hb
      dsimp only at hp
      split at hp
      · rename_i hz
        exact mt_append pins sh σ H _ _ _ _ _ I rx rv ⟨p, ys, y, rfl, rfl, e3, by rw [← r.length]; exact hz, set_qW hS el hl rfl (r.snoc rb) rw_non hp⟩
      · exact hp.elim
    | [], _, hp => exact hp.elim
    | _ :: _ :: _, _, hp => exact hp.elim
  | extend =>
    simp only [mut1, el] at hp
    match bs, hb, hp with
    | [b], hb, hp =>
      obtain ⟨y, rfl, rb⟩ := rws_one hb
      cases b with
      | lst zs =>
        unfold RW at rb
        obtain ⟨b, ws, rfl, hf, r2⟩ := rb
        dsimp only at hp
        split at hp
        · rename_i hz
          obtain ⟨u, rfl, ru⟩ := rv.one
          exact mt_ext I rx ru e3 hf.rd (by rw [← r.length, ← r2.length]; exact hz) (set_qW hS el hl rfl (r.append r2) rw_non hp)
        · exact hp.elim
      | _ => exact hp.elim
    | [], _, hp => exact hp.elim
    | b :: _ :: _, _, hp => cases b <;> exact hp.elim
  | pop =>
    simp only [mut1, el] at hp
    match bs, hb, hp with
    | [b], hb, hp =>
      obtain ⟨y, rfl, rb⟩ := rws_one hb
      cases b with
      | int i =>
        cases RW.inj_int rb
        dsimp only at hp
        split at hp
        · rename_i j ej
          split at hp
          · rename_i w ew
            split at hp
            · rename_i hz
              obtain ⟨k1, k2, k3, k4⟩ := ixN_seq ej
              obtain ⟨z, h1, h2⟩ := r.get ew
              have big := sizeLine_eq
              have hz' : xs.length ≤ sizeLine := hz
              exact mt_popAt pins sh σ H _ _ _ _ _ I rx rv ⟨p, ys, i, j, z, rfl, rfl, e3, by omega, by omega, by rw [← r.length]; exact k1, h1, set_qW hS el hl rfl (r.eraseIdx j) h2 hp⟩
            · exact hp.elim
          · exact hp.elim
        · exact hp.elim
      | _ => exact hp.elim
    | [], hb, hp =>
      cases rws_nil hb
      dsimp only at hp
      split at hp
      · rename_i w ew
        obtain ⟨z, h1, h2⟩ := r.get ew
        exact mt_pop pins sh σ H _ _ _ _ _ I rx rv ⟨p, ys, z, rfl, rfl, e3, by rw [← r.length]; exact h1, set_qW hS el hl rfl r.dropLast h2 hp⟩
      · exact hp.elim
    | b :: _ :: _, _, hp => cases b <;> exact hp.elim
  | clear =>
    simp only [mut1, el] at hp
    match bs, hb, hp with
    | [], hb, hp =>
      cases rws_nil hb
      exact mt_clear pins sh σ H _ _ _ _ _ I rx rv ⟨p, ys, rfl, rfl, e3, set_qW hS el hl rfl .nil rw_non hp⟩
    | _ :: _, _, hp => exact hp.elim
  | reverse =>
    simp only [mut1, el] at hp
    match bs, hb, hp with
    | [], hb, hp =>
      cases rws_nil hb
      exact mt_reverse pins sh σ H _ _ _ _ _ I rx rv ⟨p, ys, rfl, rfl, e3, set_qW hS el hl rfl r.reverse rw_non hp⟩
    | _ :: _, _, hp => exact hp.elim
/-! ### one value, then several -/
def kWWs (T : Tb) (E : XK) (k : Ev → Wv → List Wv → Sto → R Wv) (s : L2.St) (x : V) (xs : List V) (H : Hp) (Q : VK) : Prop := ∃ S is r w ws, RS T S is H ∧ RE T is H r s ∧ RW T is H w x ∧ RWs T is H ws xs ∧ (k r w ws S).post (qW T S is H Q) (qX T E S is H)
theorem kW_seqs {k : Ev → Wv → List Wv → Sto → R Wv} {Q : VK} {ms : Mw (List Wv)} {x : V} (h : kW T E (fun r w S => (ms r S).bind (k r w)) s x H Q) : tWs T E ms s H (fun xs H1 => kWWs T E k s x xs H1 Q) := by
  obtain ⟨S, is, r, w, hS, hr, hw, hp⟩ := h
  exact ⟨S, is, r, hS, hr, R.post_mono (R.post_bind hp) (fun ws S1 q is1 H1 xs h1 f hws => ⟨S1, is1, r, w, ws, h1, hr.fr hS f, RW.fr hS f w _ hw, hws, R.post_mono q (fun _ _ z => z.fr f) fun _ _ _ z => z.fr f⟩) fun _ _ _ z => z⟩
/-- with a condition on the first value between the two -/
theorem kW_if {c : Ev → Wv → Sto → Bool} {k : Ev → Wv → Sto → R Wv} {Q : VK} {x : V} (h : kW T E (fun r w S => if c r w S = true then k r w S else .bad) s x H Q) : ∃ S is r w, RS T S is H ∧ RE T is H r s ∧ RW T is H w x ∧ c r w S = true ∧ (k r w S).post (qW T S is H Q) (qX T E S is H) := by
  obtain ⟨S, is, r, w, hS, hr, hw, hp⟩ := h
  dsimp only at hp
  by_cases e : c r w S = true
  · rw [if_pos e] at hp
    exact ⟨S, is, r, w, hS, hr, hw, e, hp⟩
  · rw [if_neg e] at hp
    exact hp.elim
theorem bx_ty {K : PySem.W.Frag} {w : Wv} {x : V} (hS : RS T S is H) (hw : RW T is H w x) (e : isBx S w = true) : tyV K "list" x H := by
  cases w with
  | ref l =>
    unfold RW at hw
    obtain ⟨a, rfl, ha⟩ := hw
    unfold isBx at e
    dsimp only at e
    split at e
    · rename_i xs el
      obtain ⟨ys, e3, _⟩ := hS.ob l _ a el ha
      exact .inl ⟨rfl, ys, SqL.of e3⟩
    · cases e
  | _ => cases e
theorem e_mut {m : Mu} {o e : Expr} {es : List Expr} {apos pos : Pos} {mo : Mw Wv} {ms : Mw (List Wv)} (ho : PE X o (tW T E mo)) (ha : PA X (e :: es) (tWs T E ms)) (hb : baseOk o = true) (hst : (e :: es).all notStar = true) (hl : (e :: es).length < 29) (hli : (apos.endLine == pos.line) = true) :
    PE X (.Call (.Attribute o m.nm apos) (e :: es) [] pos) (tW T E fun r S => (mo r S).bind fun x S1 => if isBx S1 x = true then (ms r S1).bind fun ys S2 => mut1 m S2 x ys else .bad) := by
  have h1 : notStar e = true := by rw [List.all_cons, Bool.and_eq_true] at hst; exact hst.1
  have h2 : es.all notStar = true := by rw [List.all_cons, Bool.and_eq_true] at hst; exact hst.2
  refine (pe_bm F.plainAttrs_list (mu_slot m) (mu_type m) (mu_run (T := T) (E := E) m) ho ha (base_ok hb) (few_ok hst hl) hli (star_ok h1) (back_plain h2)).weak fun s H Q h => ?_
  refine tW_mono (tW_seq (k := fun r x S1 => if isBx S1 x = true then (ms r S1).bind fun ys S2 => mut1 m S2 x ys else .bad) h) fun x H1 q => ?_
  obtain ⟨S, is, r, w, hS, hr, hw, c, hp⟩ := kW_if (c := fun _ x S1 => isBx S1 x) (k := fun r x S1 => (ms r S1).bind fun ys S2 => mut1 m S2 x ys) q
  refine ⟨bx_ty hS hw c, tWs_mono (kW_seqs (T := T) (E := E) (k := fun _ x ys S2 => mut1 m S2 x ys) ⟨S, is, r, w, hS, hr, hw, hp⟩) fun xs H2 ⟨S, is, r, w, ws, h1, h2, h3, h4, h5⟩ => ⟨S, is, w, ws, h1, h3, h4, h5⟩⟩
theorem e_mut0 {m : Mu} {o : Expr} {apos pos : Pos} {mo : Mw Wv} {P : Pg} {Fn : Fo} (ho : PE X o (tW T E mo)) (hb : baseOk o = true) (hli : (apos.endLine == pos.line) = true) :
    PE X (.Call (.Attribute o m.nm apos) [] [] pos) (tW T E fun r S => (mo r S).bind fun x S1 => if isBx S1 x = true then (evs P Fn [] r S1).bind fun ys S2 => mut1 m S2 x ys else .bad) := by
  refine (pe_bm0 F.plainAttrs_list (mu_slot m) (mu_type m) (mu_run (T := T) (E := E) m) ho (base_ok hb) hli).weak fun s H Q h => ?_
  refine tW_mono (tW_seq (k := fun r x S1 => if isBx S1 x = true then (evs P Fn [] r S1).bind fun ys S2 => mut1 m S2 x ys else .bad) h) fun x H1 q => ?_
  obtain ⟨S, is, r, w, hS, hr, hw, c, hp⟩ := kW_if (c := fun _ x S1 => isBx S1 x) (k := fun r x S1 => (evs P Fn [] r S1).bind fun ys S2 => mut1 m S2 x ys) q
  exact ⟨bx_ty hS hw c, S, is, w, [], hS, hw, .nil, by
    have z := hp
    unfold evs at z
    exact z⟩

/-! ### texts -/
theorem e_jn {o e : Expr} {apos pos : Pos} {mo me : Mw Wv} (hK : X.K = T.K) (ho : PE X o (tW T E mo)) (he : PE X e (tW T E me)) (hb : baseOk o = true) (hst : notStar e = true) (hli : (apos.endLine == pos.line) = true) :
    PE X (.Call (.Attribute o "join" apos) [e] [] pos) (tW T E fun r S => (mo r S).bind fun x S1 => match x with
      | .str z => (me r S1).bind fun y S2 => R.of (joinW z S2 y) S2
      | _ => .bad) := by
  refine (pe_join ho he (star_ok hst) (base_ok hb) hli).weak fun s H Q h => ?_
  refine tW_mono (tW_seq (k := fun r x S1 => match x with
      | .str z => (me r S1).bind fun y S2 => R.of (joinW z S2 y) S2
      | _ => .bad) h) fun x H1 q => ?_
  obtain ⟨S, is, r, w, hS, hr, hw, hp⟩ := q
  cases w with
  | str z =>
    cases RW.inj_str hw
    refine ⟨⟨z, rfl⟩, tW_mono (tW_1 (T := T) (E := E) (ma := me) (g := fun y S2 => R.of (joinW z S2 y) S2) ⟨S, is, r, hS, hr, hp⟩) fun y H2 ⟨S2, is2, b, h2, hb, hp2⟩ => ?_⟩
    obtain ⟨v, e, q⟩ := R.post_of hp2
    have vb := h2.view hb
    unfold joinW at e
    split at e
    · rename_i ys ev
      rw [ev] at vb
      obtain ⟨ss, e1, e2⟩ := Option.bind_eq_some_iff.mp e
      split at e2
      · rename_i hz
        cases e2
        obtain ⟨p, zs, rfl, hp, r'⟩ := vb.lst
        cases strs_of e1 r'
        exact ⟨z, p, ss, rfl, rfl, .inl (.inl hp), hz, q is2 H2 _ h2 .rfl' rw_str⟩
      · cases e2
    · rename_i ys ev
      rw [ev] at vb
      obtain ⟨ss, e1, e2⟩ := Option.bind_eq_some_iff.mp e
      split at e2
      · rename_i hz
        cases e2
        obtain ⟨p, zs, rfl, hp, r'⟩ := vb.tup
        cases strs_of e1 r'
        exact ⟨z, p, ss, rfl, rfl, .inr (hK ▸ hp), hz, q is2 H2 _ h2 .rfl' rw_str⟩
      · cases e2
    · cases e
  | _ => exact hp.elim
theorem e_upper {o : Expr} {apos pos : Pos} {mo : Mw Wv} (ho : PE X o (tW T E mo)) (hb : baseOk o = true) (hli : (apos.endLine == pos.line) = true) :
    PE X (.Call (.Attribute o "upper" apos) [] [] pos) (tW T E fun r S => (mo r S).bind fun x S1 => R.of (pr1 .upper S1 x) S1) := by
  refine (pe_upper ho (base_ok hb) hli).weak fun s H Q h => tW_mono (tW_1 h) fun x H1 ⟨S, is, a, hS, ha, hp⟩ => ?_
  obtain ⟨v, e, q⟩ := R.post_of hp
  simp only [pr1] at e
  split at e
  · split at e
    · rename_i z hz
      cases e
      cases RW.inj_str ha
      exact ⟨⟨z, rfl⟩, z, rfl, rfl, hz, q is H1 _ hS .rfl' rw_str⟩
    · cases e
  · cases e

/-! ### slices -/
def tO (T : Tb) (E : XK) (m : Ev → Sto → R (Option Int)) : TO := fun s H Q => ∃ S is r, RS T S is H ∧ RE T is H r s ∧ (m r S).post (fun o S' => ∀ is' H', RS T S' is' H' → Fr S is H S' is' H' → Q o H') (qX T E S is H)
theorem o_none {P : Pg} {Fn : Fo} : PO X none (tO T E fun r S => evO P Fn none r S) := ⟨fun pins sh σ H Q I h => po_none.run pins sh σ H Q I (by
  obtain ⟨S, is, r, hS, hr, hp⟩ := h
  unfold evO at hp
  exact hp is H hS .rfl')⟩
theorem o_some {P : Pg} {Fn : Fo} {e : Expr} {c : C} (he : PE X e (tW T E (ev P Fn c))) : PO X (some e) (tO T E fun r S => evO P Fn (some c) r S) := ⟨fun pins sh σ H Q I h => (po_some he).run pins sh σ H Q I (by
  obtain ⟨S, is, r, hS, hr, hp⟩ := h
  unfold evO at hp
  refine ⟨S, is, r, hS, hr, R.post_mono (R.post_bind hp) (fun w S1 q is1 H1 v h1 f hw => ?_) fun _ _ _ z => z⟩
  obtain ⟨o, e, q⟩ := R.post_of q
  cases w with
  | int i =>
    cases e
    cases RW.inj_int hw
    exact ⟨i, rfl, q is1 H1 h1 f⟩
  | _ => cases e)⟩
theorem cut_rel {xs : List Wv} {ys : List V} {l h : Option Int} (r : RWs T is H xs ys) : RWs T is H (cutW xs l h) (cutV ys l h) := by
  unfold cutW cutV
  rw [r.length]
  exact (r.drop _).take _
def rSl (T : Tb) (E : XK) : V → Option Int → Option Int → Hp → VK → Prop := fun x l h H Q => ∃ S is a, RS T S is H ∧ RW T is H a x ∧ (R.of (slcW S a l h) S).post (qW T S is H Q) (qX T E S is H)
theorem cut_full {α : Type} {xs : List α} {l h : Option Int} (h1 : HT.sIx xs.length 0 l = 0) (h2 : HT.sIx xs.length xs.length h = xs.length) : (xs.drop (HT.sIx xs.length 0 l)).take (HT.sIx xs.length xs.length h - HT.sIx xs.length 0 l) = xs := by
  rw [h1, h2]
  simp
theorem sl_any (hK : X.K = T.K) : SlR X (rSl T E) := by
  intro pins sh σ H x v vl vu lo hi sl Q I rx hs pl pu ⟨S, is, a, hS, ha, hp⟩
  obtain ⟨w, e, q⟩ := R.post_of hp
  have va := hS.view ha
  unfold slcW at e
  split at e
  · rename_i xs ev
    rw [ev] at va
    cases e
    obtain ⟨p, ys, rfl, hp, r⟩ := va.lst
    obtain ⟨t, id, h1, h2, h3⟩ := sl_list pins sh σ H _ _ _ _ _ _ sl (Qf Q) I rx hs pl pu ⟨p, ys, rfl, .inl hp, fun n hn => ⟨n, _, rfl, upd_same, fun od => q is _ _ (lock_rs hS hn).1 (lock_rs hS hn).2 (.lst_new hS hn (cut_rel r))⟩⟩
    exact ⟨t, id, h1, h2, thn h3 fun _ _ z => EP_lock z⟩
  · rename_i xs ev
    rw [ev] at va
    cases e
    obtain ⟨p, ys, rfl, hp, r⟩ := va.tup
    refine sl_tupA pins sh σ H _ _ _ _ _ _ sl Q I rx hs pl pu ⟨p, ys, rfl, hK ▸ hp, fun z => q is H _ hS .rfl' ?_, fun _ n hn => q is _ _ (hS.new hn) (.new hS hn) (.tup_new hS hn (cut_rel r))⟩
    unfold RW
    have c := cut_rel (l := lo) (h := hi) r
    unfold cutV at c
    rw [cut_full z.1 z.2] at c
    exact ⟨p, ys, rfl, hp, c⟩
  · rename_i z ev
    rw [ev] at va
    cases va.str
    split at e
    · rename_i hl
      cases e
      exact sl_str pins sh σ H _ _ _ _ _ _ sl Q I rx hs pl pu ⟨z, rfl, hl, q is H _ hS .rfl' rw_str⟩
    · cases e
  · cases e
theorem e_slc {a : Expr} {lo hi : Option Expr} {p2 pos : Pos} {ma : Mw Wv} {ml mh : Mw (Option Int)} (hK : X.K = T.K) (ha : PE X a (tW T E ma)) (hl : PO X lo (tO T E ml)) (hh : PO X hi (tO T E mh)) :
    PE X (.Subscript a (.Slice lo hi none p2) pos) (tW T E fun r S => (ma r S).bind fun x S1 => (ml r S1).bind fun l S2 => (mh r S2).bind fun h S3 => R.of (slcW S3 x l h) S3) :=
  (pe_slice (sl_any (E := E) hK) ha hl hh).weak fun s H Q h => by
    obtain ⟨S, is, r, hS, hr, hp⟩ := h
    refine ⟨S, is, r, hS, hr, R.post_mono (R.post_bind hp) (fun w S1 q is1 H1 x h1 f1 hw => ?_) fun _ _ _ z => z⟩
    refine ⟨S1, is1, r, h1, hr.fr hS f1, R.post_mono (R.post_bind q) (fun l S2 q2 is2 H2 h2 f2 => ?_) fun _ _ _ z => z.fr f1⟩
    refine ⟨S2, is2, r, h2, (hr.fr hS f1).fr h1 f2, R.post_mono (R.post_bind q2) (fun u S3 q3 is3 H3 h3 f3 => ?_) fun _ _ _ z => z.fr (f1.trans f2)⟩
    have f := f1.trans (f2.trans f3)
    exact ⟨S3, is3, w, h3, RW.fr h2 f3 w x (RW.fr h1 f2 w x hw), R.post_mono q3 (fun _ _ z => z.fr f) fun _ _ _ z => z.fr f⟩

/-! ### not, and, or, a conditional, a negative -/
abbrev mB (m : Mw Wv) : Mw Bool := fun r S => (m r S).bind asBool
/-- a test that is a value -/
def plainT : Expr → Bool
  | .BoolOp .. => false
  | .UnaryOp .Not _ _ => false
  | .Compare .. => false
  | .IfExp .. => false
  | .NamedExpr .. => false
  | _ => true
theorem plain_t {e : Expr} {env : Env} (h : plainT e = true) : ∀ whole, isTrue e env whole = (do let v ← whole; standAt e.pos; holding [v] (truthy v)) := fun whole => by
  cases e with
  | UnaryOp op a p => cases op <;> first | rfl | cases h
  | _ => first | rfl | cases h
theorem post_bool {m : R Wv} {f : Bool → Sto → Prop} {g : Nat → List (Nat × Wv) → Sto → Prop} (h : (m.bind asBool).post f g) : m.post (fun w S => ∃ b, w = .bl b ∧ f b S) g := by
  refine R.post_mono (R.post_bind h) (fun w S1 q => ?_) fun _ _ _ z => z
  cases w with
  | bl b => exact ⟨b, rfl, q⟩
  | _ => exact q.elim
theorem tB_w {m : Mw Wv} {Q : Bool → Hp → Prop} (h : tBl T E (mB m) s H Q) : tW T E m s H fun x H1 => ∃ c, x = .bl c ∧ Q c H1 := by
  obtain ⟨S, is, r, hS, hr, hp⟩ := h
  refine ⟨S, is, r, hS, hr, R.post_mono (post_bool hp) (fun w S1 ⟨b, e, q⟩ is1 H1 x h1 f hw => ?_) fun _ _ _ z => z⟩
  subst e
  cases RW.inj_bl hw
  exact ⟨b, rfl, q is1 H1 h1 f⟩
theorem t_val {e : Expr} {m : Mw Wv} (h : PE X e (tW T E m)) (hp : plainT e = true) : PT X e (tBl T E (mB m)) := (pt_val h (plain_t hp)).weak fun s H Q h => tB_w h
theorem t_cmp {a b : Expr} {op : CmpOp} {pos : Pos} {ma mb : Mw Wv} {g : Wv → Wv → Sto → R Wv} (ha : PE X a (tW T E ma)) (hb : PE X b (tW T E mb)) (ho : OpR X (compareOp op) (r2 T E g)) (hm : behindInMarks op b = false) :
    PT X (.Compare a [op] [b] pos) (tBl T E (mB fun r S => (ma r S).bind fun x S1 => (mb r S1).bind fun y S2 => g x y S2)) := (pt_cmpR ho ha hb hm).weak fun s H Q h => tW_2 (tB_w h)
theorem t_not {a : Expr} {pos : Pos} {m : Mw Bool} (ha : PT X a (tBl T E m)) : PT X (.UnaryOp .Not a pos) (tBl T E fun r S => ((m r S).bind fun b S1 => .ok (.bl (!b)) S1).bind asBool) := (pt_not ha).weak fun s H Q h => by
  obtain ⟨S, is, r, hS, hr, hp⟩ := h
  exact ⟨S, is, r, hS, hr, R.post_mono (R.post_bind (R.post_bind hp)) (fun b S1 q => q) fun _ _ _ z => z⟩
theorem e_not {a : Expr} {pos : Pos} {m : Mw Wv} (ha : PE X a (tW T E m)) : PE X (.UnaryOp .Not a pos) (tW T E fun r S => ((m r S).bind asBool).bind fun b S1 => .ok (.bl (!b)) S1) := (pe_not ha).weak fun s H Q h => by
  refine tB_w (Q := fun c H1 => Q (.bl (!c)) H1) ?_
  obtain ⟨S, is, r, hS, hr, hp⟩ := h
  exact ⟨S, is, r, hS, hr, R.post_mono (R.post_bind hp) (fun b S1 q is1 H1 h1 f => q is1 H1 _ h1 f rw_bl) fun _ _ _ z => z⟩
end Pe

set_option Elab.async false
set_option linter.all false
set_option maxRecDepth 100000
/-! and, or, a conditional, a chain, a negative, a list given up, attributes. -/
namespace Pe
open PySem PySem.Spec PyProof.Rows L2
variable {T : Tb} {E : XK} {X : Cx} {S S1 S2 : Sto} {is is1 is2 : List Addr} {H H1 H2 : Hp} {s : L2.St} {P : Pg} {Fn : Fo}

inductive A2 {a b : Type} (r : a → b → Prop) : List a → List b → Prop where
  | nil : A2 r [] []
  | cons {x : a} {y : b} {xs : List a} {ys : List b} (h : r x y) (t : A2 r xs ys) : A2 r (x :: xs) (y :: ys)

/-! ### and, or -/
theorem bl_w {m : Mw Wv} {Q : VK} {k : Bool → Mw Wv} (h : tW T E (fun r S => ((m r S).bind asBool).bind fun b S1 => k b r S1) s H Q) : tW T E m s H fun x H1 => ∃ c, x = .bl c ∧ tW T E (k c) s H1 Q := by
  obtain ⟨S, is, r, hS, hr, hp⟩ := h
  refine ⟨S, is, r, hS, hr, R.post_mono (post_bool (R.post_bind hp)) (fun w S1 ⟨b, e, q⟩ is1 H1 x h1 f hw => ?_) fun _ _ _ z => z⟩
  subst e
  cases RW.inj_bl hw
  exact ⟨b, rfl, S1, is1, r, h1, hr.fr hS f, R.post_mono q (fun _ _ z => z.fr f) fun _ _ _ z => z.fr f⟩
theorem tW_congr {m m' : Mw Wv} {Q : VK} (h : tW T E m s H Q) (e : ∀ r S, m r S = m' r S) : tW T E m' s H Q := by
  obtain ⟨S, is, r, hS, hr, hp⟩ := h
  exact ⟨S, is, r, hS, hr, by rw [← e]; exact hp⟩
theorem tBl_congr {m m' : Mw Bool} {Q : Bool → Hp → Prop} (h : tBl T E m s H Q) (e : ∀ r S, m r S = m' r S) : tBl T E m' s H Q := by
  obtain ⟨S, is, r, hS, hr, hp⟩ := h
  exact ⟨S, is, r, hS, hr, by rw [← e]; exact hp⟩
abbrev mAll (P : Pg) (Fn : Fo) (cs : List C) : Mw Wv := fun r S => (evAll P Fn cs r S).bind fun b S1 => .ok (.bl b) S1
abbrev mAny (P : Pg) (Fn : Fo) (cs : List C) : Mw Wv := fun r S => (evAny P Fn cs r S).bind fun b S1 => .ok (.bl b) S1
theorem R.bind_assoc {a b c : Type} (m : R a) (f : a → Sto → R b) (g : b → Sto → R c) : (m.bind f).bind g = m.bind fun x S => (f x S).bind g := by
  cases m <;> rfl
theorem now {w : Wv} {v : V} {Q : VK} (hw : ∀ is H, RW T is H w v) (h : tW T E (fun _ S => .ok w S) s H Q) : Q v H := by
  obtain ⟨S, is, r, hS, hr, hp⟩ := h
  exact hp is H v hS .rfl' (hw is H)
theorem e_and : ∀ {es : List Expr} {cs : List C} {pos : Pos}, A2 (fun e c => PE X e (tW T E (ev P Fn c))) es cs → es ≠ [] → PE X (.BoolOp .And es pos) (tW T E (mAll P Fn cs))
  | _, _, _, .nil, h => absurd rfl h
  | _, _, _, .cons (x := e) (y := c) h .nil, _ => (pe_one h).weak fun s H Q q => by
    refine tW_mono (bl_w (k := fun b r S => if b = true then .ok (.bl true) S else .ok (.bl false) S) (tW_congr q fun r S => ?_)) fun x H1 ⟨b, e, z⟩ => ?_
    · simp only [mAll, evAll, R.bind_assoc]
      congr 1
      funext b S1
      cases b with
      | bl k => cases k <;> rfl
      | _ => rfl
    · subst e
      cases b with
      | true => exact now (fun _ _ => rw_bl) z
      | false => exact now (fun _ _ => rw_bl) z
  | _, _, _, .cons (x := e) (y := c) h (.cons (y := c2) (ys := cs) h2 t), _ => (pe_and h (e_and (.cons h2 t) (by simp))).weak fun s H Q q => by
    refine tW_mono (bl_w (k := fun b r S => if b = true then mAll P Fn (c2 :: cs) r S else .ok (.bl false) S) (tW_congr q fun r S => ?_)) fun x H1 ⟨b, e, z⟩ => ⟨b, e, ?_⟩
    · rw [mAll, evAll, R.bind_assoc]
      congr 1
      funext b S1
      cases b <;> rfl
    · cases b with
      | true => exact z
      | false => exact now (fun _ _ => rw_bl) z
theorem e_or : ∀ {es : List Expr} {cs : List C} {pos : Pos}, A2 (fun e c => PE X e (tW T E (ev P Fn c))) es cs → es ≠ [] → PE X (.BoolOp .Or es pos) (tW T E (mAny P Fn cs))
  | _, _, _, .nil, h => absurd rfl h
  | _, _, _, .cons (x := e) (y := c) h .nil, _ => (pe_one h).weak fun s H Q q => by
    refine tW_mono (bl_w (k := fun b r S => if b = true then .ok (.bl true) S else .ok (.bl false) S) (tW_congr q fun r S => ?_)) fun x H1 ⟨b, e, z⟩ => ?_
    · simp only [mAny, evAny, R.bind_assoc]
      congr 1
      funext b S1
      cases b with
      | bl k => cases k <;> rfl
      | _ => rfl
    · subst e
      cases b with
      | true => exact now (fun _ _ => rw_bl) z
      | false => exact now (fun _ _ => rw_bl) z
  | _, _, _, .cons (x := e) (y := c) h (.cons (y := c2) (ys := cs) h2 t), _ => (pe_or h (e_or (.cons h2 t) (by simp))).weak fun s H Q q => by
    refine tW_mono (bl_w (k := fun b r S => if b = true then .ok (.bl true) S else mAny P Fn (c2 :: cs) r S) (tW_congr q fun r S => ?_)) fun x H1 ⟨b, e, z⟩ => ⟨b, e, ?_⟩
    · rw [mAny, evAny, R.bind_assoc]
      congr 1
      funext b S1
      cases b <;> rfl
    · cases b with
      | true => exact now (fun _ _ => rw_bl) z
      | false => exact z
/-- .. as tests -/
theorem bl_t {m : Mw Bool} {Q : Bool → Hp → Prop} {k : Bool → Mw Bool} (h : tBl T E (fun r S => (m r S).bind fun b S1 => k b r S1) s H Q) : tBl T E m s H fun c H1 => tBl T E (k c) s H1 Q := by
  obtain ⟨S, is, r, hS, hr, hp⟩ := h
  refine ⟨S, is, r, hS, hr, R.post_mono (R.post_bind hp) (fun b S1 q is1 H1 h1 f => ?_) fun _ _ _ z => z⟩
  exact ⟨S1, is1, r, h1, hr.fr hS f, R.post_mono q (fun _ _ z => z.fr f) fun _ _ _ z => z.fr f⟩
theorem nowB {b : Bool} {Q : Bool → Hp → Prop} (h : tBl T E (fun _ S => .ok b S) s H Q) : Q b H := by
  obtain ⟨S, is, r, hS, hr, hp⟩ := h
  exact hp is H hS .rfl'
theorem w_and : ∀ {es : List Expr} {cs : List C} {pos : Pos}, A2 (fun e c => PT X e (tBl T E (mB (ev P Fn c)))) es cs → es ≠ [] → PW X (.BoolOp .And es pos) (tBl T E (evAll P Fn cs))
  | _, _, _, .nil, h => absurd rfl h
  | _, _, _, .cons (x := e) (y := c) h .nil, _ => (pw_and1 h).weak fun s H Q q => by
    refine tBl_mono (bl_t (k := fun b r S => if b = true then .ok true S else .ok false S) (tBl_congr q fun r S => ?_)) fun b H1 z => ?_
    · rfl
    · cases b with
      | true => exact nowB z
      | false => exact nowB z
  | _, _, _, .cons (x := e) (y := c) h (.cons (y := c2) (ys := cs) h2 t), _ => (pw_and h (w_and (.cons h2 t) (by simp))).weak fun s H Q q => by
    refine tBl_mono (bl_t (m := mB (ev P Fn c)) (k := fun b r S => if b = true then evAll P Fn (c2 :: cs) r S else .ok false S) (tBl_congr q fun r S => ?_)) fun b H1 z => ?_
    · rw [evAll]
    · cases b with
      | true => exact z
      | false => exact nowB z
theorem w_or : ∀ {es : List Expr} {cs : List C} {pos : Pos}, A2 (fun e c => PT X e (tBl T E (mB (ev P Fn c)))) es cs → es ≠ [] → PW X (.BoolOp .Or es pos) (tBl T E (evAny P Fn cs))
  | _, _, _, .nil, h => absurd rfl h
  | _, _, _, .cons (x := e) (y := c) h .nil, _ => (pw_or1 h).weak fun s H Q q => by
    refine tBl_mono (bl_t (k := fun b r S => if b = true then .ok true S else .ok false S) (tBl_congr q fun r S => ?_)) fun b H1 z => ?_
    · rfl
    · cases b with
      | true => exact nowB z
      | false => exact nowB z
  | _, _, _, .cons (x := e) (y := c) h (.cons (y := c2) (ys := cs) h2 t), _ => (pw_or h (w_or (.cons h2 t) (by simp))).weak fun s H Q q => by
    refine tBl_mono (bl_t (m := mB (ev P Fn c)) (k := fun b r S => if b = true then .ok true S else evAny P Fn (c2 :: cs) r S) (tBl_congr q fun r S => ?_)) fun b H1 z => ?_
    · rw [evAny]
    · cases b with
      | true => exact nowB z
      | false => exact z
/-! ### a if t else b, a op b op c, -a -/
theorem bl_tW {m : Mw Bool} {Q : VK} {k : Bool → Mw Wv} (h : tW T E (fun r S => (m r S).bind fun b S1 => k b r S1) s H Q) : tBl T E m s H fun c H1 => tW T E (k c) s H1 Q := by
  obtain ⟨S, is, r, hS, hr, hp⟩ := h
  refine ⟨S, is, r, hS, hr, R.post_mono (R.post_bind hp) (fun b S1 q is1 H1 h1 f => ?_) fun _ _ _ z => z⟩
  exact ⟨S1, is1, r, h1, hr.fr hS f, R.post_mono q (fun _ _ z => z.fr f) fun _ _ _ z => z.fr f⟩
theorem e_ite {t a b : Expr} {pos : Pos} {mt : Mw Bool} {ma mb : Mw Wv} (ht : PT X t (tBl T E mt)) (ha : PE X a (tW T E ma)) (hb : PE X b (tW T E mb)) :
    PE X (.IfExp t a b pos) (tW T E fun r S => (mt r S).bind fun x S1 => if x = true then ma r S1 else mb r S1) := (pe_ifExp ht ha hb).weak fun s H Q h => tBl_mono (bl_tW (k := fun x r S1 => if x = true then ma r S1 else mb r S1) h) fun b H1 z => by
  cases b with
  | true => exact z
  | false => exact z
theorem e_neg {a : Expr} {pos : Pos} {ma : Mw Wv} (ha : PE X a (tW T E ma)) : PE X (.UnaryOp .USub a pos) (tW T E fun r S => (ma r S).bind fun x S1 => match x with
    | .int i => .ok (.int (-i)) S1
    | _ => .bad) := (pe_un un_neg ha).weak fun s H Q h => tW_mono (tW_1 h) fun x H1 ⟨S, is, w, hS, hw, hp⟩ => by
  cases w with
  | int i =>
    cases RW.inj_int hw
    exact ⟨i, rfl, hp is H1 _ hS .rfl' rw_int⟩
  | _ => exact hp.elim
abbrev mCh (p1 p2 : COp) (ma mb mc : Mw Wv) : Mw Wv := fun r S => (ma r S).bind fun x S1 => (mb r S1).bind fun y S2 => match cmpW p1 S2 x y with
      | none => .bad
      | some false => .ok (.bl false) S2
      | some true => (mc r S2).bind fun z S3 => R.of ((cmpW p2 S3 y z).map Wv.bl) S3
theorem chain_w {p1 p2 : COp} {ma mb mc : Mw Wv} (s : L2.St) (H : Hp) (Q : VK) (h : tW T E (mCh p1 p2 ma mb mc) s H Q) : tChain (r2 T E fun x y S => R.of ((cmpW p1 S x y).map Wv.bl) S) (r2 T E fun x y S => R.of ((cmpW p2 S x y).map Wv.bl) S) (tW T E ma) (tW T E mb) (tW T E mc) s H Q := by
  refine tW_mono (tW_seq (k := fun r x S1 => (mb r S1).bind fun y S2 => match cmpW p1 S2 x y with
      | none => .bad
      | some false => .ok (.bl false) S2
      | some true => (mc r S2).bind fun z S3 => R.of ((cmpW p2 S3 y z).map Wv.bl) S3) h) fun x H1 q => ?_
  refine tW_mono (kW_seq (k := fun r x y S2 => match cmpW p1 S2 x y with
      | none => .bad
      | some false => .ok (.bl false) S2
      | some true => (mc r S2).bind fun z S3 => R.of ((cmpW p2 S3 y z).map Wv.bl) S3) q) fun y H2 q => ?_
  obtain ⟨S, is, r, w, z, hS, hr, hw, hz, hp⟩ := q
  dsimp only at hp
  split at hp
  · exact hp.elim
  · rename_i e
    refine ⟨S, is, w, z, hS, hw, hz, ?_⟩
    dsimp only
    rw [e]
    exact fun is' H' v h' f hv => by
      cases RW.inj_bl hv
      exact ⟨false, rfl, hp is' H' _ h' f rw_bl⟩
  · rename_i e
    refine ⟨S, is, w, z, hS, hw, hz, ?_⟩
    dsimp only
    rw [e]
    exact fun is' H' v h' f hv => by
      cases RW.inj_bl hv
      refine ⟨true, rfl, ?_⟩
      refine ⟨S, is', r, h', hr.fr hS f, R.post_mono (R.post_bind hp) (fun u S3 q is3 H3 x3 h3 f3 hu => ?_) fun _ _ _ z => z.fr f⟩
      have ff := f.trans f3
      exact ⟨S3, is3, z, u, h3, RW.fr hS ff z _ hz, hu, R.post_mono q (fun _ _ z => z.fr ff) fun _ _ _ z => z.fr ff⟩
theorem e_chain {a b c : Expr} {o1 o2 : CmpOp} {p1 p2 : COp} {pos : Pos} {ma mb mc : Mw Wv} (h1 : OpR X (compareOp o1) (r2 T E fun x y S => R.of ((cmpW p1 S x y).map Wv.bl) S)) (h2 : OpR X (compareOp o2) (r2 T E fun x y S => R.of ((cmpW p2 S x y).map Wv.bl) S))
    (ha : PE X a (tW T E ma)) (hb : PE X b (tW T E mb)) (hc : PE X c (tW T E mc)) (hm : lastMarks [o1, o2] [b, c] = false) :
    PE X (.Compare a [o1, o2] [b, c] pos) (tW T E (mCh p1 p2 ma mb mc)) := (pe_chain h1 h2 ha hb hc hm).weak chain_w
theorem t_chain {a b c : Expr} {o1 o2 : CmpOp} {p1 p2 : COp} {pos : Pos} {ma mb mc : Mw Wv} (h1 : OpR X (compareOp o1) (r2 T E fun x y S => R.of ((cmpW p1 S x y).map Wv.bl) S)) (h2 : OpR X (compareOp o2) (r2 T E fun x y S => R.of ((cmpW p2 S x y).map Wv.bl) S))
    (ha : PE X a (tW T E ma)) (hb : PE X b (tW T E mb)) (hc : PE X c (tW T E mc)) (hm : lastMarks [o1, o2] [b, c] = false) :
    PT X (.Compare a [o1, o2] [b, c] pos) (tBl T E (mB (mCh p1 p2 ma mb mc))) := (pt_chain h1 h2 ha hb hc hm).weak fun s H Q h => chain_w s H _ (tB_w h)
end Pe

set_option Elab.async false
set_option linter.all false
set_option maxRecDepth 100000
/-! A list given up, attributes, stores of items and attributes. -/
namespace Pe
open PySem PySem.Spec PyProof.Rows L2
variable {T : Tb} {E : XK} {X : Cx} {S S1 S2 : Sto} {is is1 is2 : List Addr} {H H1 H2 : Hp} {s : L2.St} {P : Pg} {Fn : Fo}

/-- a mutable list is read only from now on -/
theorem e_frz {e : Expr} {m : Mw Wv} (h : PE X e (tW T E m)) : PE X e (tW T E fun r S => (m r S).bind fun x S1 => frzW S1 x) := by
  refine ⟨fun pins sh σ H Q I hq => ?_⟩
  refine thn (h.run pins sh σ H _ I (tW_1 (g := fun x S1 => frzW S1 x) hq)) fun u s' hz => ?_
  obtain ⟨v, H', I', rv, S, is, w, hS, hw, hp⟩ := hz
  cases w with
  | ref l =>
    unfold RW at hw
    obtain ⟨a, rfl, ha⟩ := hw
    unfold frzW at hp
    dsimp only at hp
    split at hp
    · rename_i xs el
      obtain ⟨ys, e3, r⟩ := hS.ob l _ a el ha
      obtain ⟨od, I2⟩ := I'.lock e3 trivial
      obtain ⟨h1, f1⟩ := hS.kill (o' := .frz od (.lst ys)) el ha rfl e3 trivial
      refine ⟨.ref a, _, I2, rv, hp is _ _ h1 f1 ?_⟩
      unfold RW
      exact ⟨a, ys, rfl, ⟨od, upd_same⟩, RWs.keep (keep_of_mut hS e3 trivial) xs ys r⟩
    · exact hp.elim
  | _ => exact hp.elim

/-! ### attributes -/
/-- what the program's classes must have -/
structure TbOk (T : Tb) (P : Pg) : Prop where
  inj : ∀ i j, T.an i = T.an j → i = j
  cls : ∀ c f, P.fld c f = true → Cls T.K (T.ca c)
  fld : ∀ c f, P.fld c f = true → NoAttr T.K (T.ca c) (T.an f)
  con : ∀ c f w, P.con c f = some w → Cls T.K (T.ca c) ∧ ∃ v u, Con T.K (T.ca c) (T.an f) v u ∧ ∀ is H, RW T is H w v
theorem look_f (inj : ∀ i j, T.an i = T.an j → i = j) : ∀ {fs : List (Nat × Wv)} {ys : List (Str × V)} (f : Nat), RFs T is H fs ys → (∀ w, lookF fs f = some w → ∃ v, ys.lookup (T.an f) = some v ∧ RW T is H w v) ∧ (lookF fs f = none → ys.lookup (T.an f) = none)
  | [], ys, f, h => by unfold RFs at h; rw [h]; exact ⟨fun w e => by simp [lookF] at e, fun _ => rfl⟩
  | p :: r, ys, f, h => by
    unfold RFs at h
    obtain ⟨y, t, rfl, q, h2⟩ := h
    have ih := look_f inj f h2
    unfold lookF
    by_cases e : p.1 = f
    · rw [if_pos e, List.lookup_cons, e]
      simp only [beq_self_eq_true]
      exact ⟨fun w z => by cases z; exact ⟨y, rfl, q⟩, fun z => by cases z⟩
    · have ne : (T.an f == T.an p.1) = false := by
        rw [beq_eq_false_iff_ne]
        exact fun z => e (inj _ _ z.symm)
      rw [if_neg e, List.lookup_cons, ne]
      exact ih
theorem put_f (inj : ∀ i j, T.an i = T.an j → i = j) {f : Nat} {w : Wv} {v : V} (hw : RW T is H w v) : ∀ {fs : List (Nat × Wv)} {ys : List (Str × V)}, RFs T is H fs ys → RFs T is H (storF fs f w) (putF (T.an f) v ys)
  | [], ys, h => by
    unfold RFs at h
    rw [h]
    unfold storF putF RFs
    exact ⟨v, [], rfl, hw, by unfold RFs; rfl⟩
  | p :: r, ys, h => by
    unfold RFs at h
    obtain ⟨y, t, rfl, q, h2⟩ := h
    unfold storF putF
    by_cases e : p.1 = f
    · rw [if_pos e, if_pos (by rw [e])]
      unfold RFs
      exact ⟨v, t, rfl, hw, h2⟩
    · rw [if_neg e, if_neg (fun z => e (inj _ _ z))]
      unfold RFs
      exact ⟨y, _, rfl, q, put_f inj hw h2⟩
theorem fs_len : ∀ {fs : List (Nat × Wv)} {ys : List (Str × V)}, RFs T is H fs ys → ys.length = fs.length
  | [], ys, h => by unfold RFs at h; rw [h]; rfl
  | p :: r, ys, h => by
    unfold RFs at h
    obtain ⟨y, t, rfl, q, h2⟩ := h
    rw [List.length_cons, List.length_cons, fs_len h2]
theorem e_att {o : Expr} {f : Nat} {pos : Pos} {m : Mw Wv} (hK : X.K = T.K) (ok : TbOk T P) (ho : PE X o (tW T E m)) (hb : baseOk o = true) : PE X (.Attribute o (T.an f) pos) (tW T E fun r S => (m r S).bind fun x S1 => R.of (attW P S1 x f) S1) := by
  refine ⟨fun pins sh σ H Q I h => ?_⟩
  refine attr_of (base_ok hb) (thn (ho.run pins sh σ H _ I (tW_1 (g := fun x S1 => R.of (attW P S1 x f) S1) h)) fun u s1 ⟨x, H1, I1, rx, S, is, w, hS, hw, hp⟩ => ?_)
  obtain ⟨z, e, q⟩ := R.post_of hp
  cases w with
  | ref l =>
    unfold RW at hw
    obtain ⟨a, rfl, ha⟩ := hw
    obtain rfl : u = Value.ref a := rx
    unfold attW at e
    dsimp only at e
    split at e
    · rename_i c fs el
      obtain ⟨dx, ys, e3, r⟩ := hS.ob l _ a el ha
      obtain ⟨l1, l2⟩ := look_f ok.inj f r
      split at e
      · rename_i v ev
        split at e
        · rename_i hf
          cases e
          obtain ⟨y, g1, g2⟩ := l1 _ ev
          exact getattr_ok I1 e3 (hK ▸ ok.cls c f hf) (hK ▸ ok.fld c f hf) g1 fun u' s2 I2 ru => ⟨y, H1, I2, ru, q is H1 _ hS .rfl' g2⟩
        · cases e
      · rename_i ev
        obtain ⟨hc, y, u, k, g⟩ := ok.con c f _ e
        exact getcon_ok I1 e3 (hK ▸ hc) (hK ▸ k) (l2 ev) fun s2 I2 => ⟨y, H1, I2, k.rel, q is H1 _ hS .rfl' (g is H1)⟩
    · cases e
  | _ => cases e

/-! ### o[i] = v, o.f = v -/
theorem any_k : ∀ {kvs : List (Key × Wv)} {ys : List (Key × V)} (k : Key), RKs T is H kvs ys → (kvs.any fun p => decide (p.1 = k)) = ys.any fun p => decide (p.1 = k)
  | [], ys, k, h => by unfold RKs at h; rw [h]; rfl
  | p :: r, ys, k, h => by
    unfold RKs at h
    obtain ⟨y, t, rfl, q, h2⟩ := h
    rw [List.any_cons, List.any_cons, any_k k h2]
theorem map_k {k : Key} {w : Wv} {v : V} (hw : RW T is H w v) : ∀ {kvs : List (Key × Wv)} {ys : List (Key × V)}, RKs T is H kvs ys → RKs T is H (kvs.map fun p => if p.1 = k then (p.1, w) else p) (ys.map fun p => if p.1 = k then (p.1, v) else p)
  | [], ys, h => by unfold RKs at h; rw [h]; unfold RKs; rfl
  | p :: r, ys, h => by
    unfold RKs at h
    obtain ⟨y, t, rfl, q, h2⟩ := h
    have ih := map_k (k := k) hw h2
    rw [List.map_cons, List.map_cons]
    unfold RKs
    by_cases e : p.1 = k
    · exact ⟨v, _, by rw [if_pos e, if_pos e], by rw [if_pos e]; exact hw, ih⟩
    · exact ⟨y, _, by rw [if_neg e, if_neg e], by rw [if_neg e]; exact q, ih⟩
theorem snoc_k {k : Key} {w : Wv} {v : V} (hw : RW T is H w v) : ∀ {kvs : List (Key × Wv)} {ys : List (Key × V)}, RKs T is H kvs ys → RKs T is H (kvs ++ [(k, w)]) (ys ++ [(k, v)])
  | [], ys, h => by unfold RKs at h; rw [h]; unfold RKs; exact ⟨v, [], rfl, hw, by unfold RKs; rfl⟩
  | p :: r, ys, h => by
    unfold RKs at h
    obtain ⟨y, t, rfl, q, h2⟩ := h
    rw [List.cons_append, List.cons_append]
    unfold RKs
    exact ⟨y, _, rfl, q, snoc_k hw h2⟩
theorem stor_k {kvs : List (Key × Wv)} {ys : List (Key × V)} {k : Key} {w : Wv} {v : V} (hw : RW T is H w v) (h : RKs T is H kvs ys) : RKs T is H (storK kvs k w) (putK ys k v) := by
  unfold storK putK
  rw [any_k k h]
  split
  · exact map_k hw h
  · exact snoc_k hw h
theorem ks_len : ∀ {kvs : List (Key × Wv)} {ys : List (Key × V)}, RKs T is H kvs ys → ys.length = kvs.length
  | [], ys, h => by unfold RKs at h; rw [h]; rfl
  | p :: r, ys, h => by
    unfold RKs at h
    obtain ⟨y, t, rfl, q, h2⟩ := h
    rw [List.length_cons, List.length_cons, ks_len h2]
def rSetW (T : Tb) : TSet := fun o i v H Q => ∃ S is a b w S', RS T S is H ∧ RW T is H a o ∧ RW T is H b i ∧ RW T is H w v ∧ setI S a b w = some S' ∧ ∀ is' H', RS T S' is' H' → Fr S is H S' is' H' → Q H'
theorem set_any (hu : X.A.units + 1 < cLine) : PSet X (rSetW T) := by
  intro pins sh σ H o i v ov iv u Q I ro ri rv ⟨S, is, a, b, w, S', hS, ha, hb, hw, e, q⟩
  unfold setI at e
  split at e
  · rename_i l
    unfold RW at ha
    obtain ⟨p, rfl, hp⟩ := ha
    split at e
    · rename_i xs el
      obtain ⟨ys, e3, r⟩ := hS.ob l _ p el hp
      split at e
      · rename_i k
        obtain ⟨j, ej, rfl⟩ := Option.map_eq_some_iff.mp e
        cases RW.inj_int hb
        rw [r.length] at ej
        obtain ⟨h1, f1⟩ := hS.write (o := .lst (ys.set j v)) (ob' := .lst (xs.set j w)) el hp rfl fun f => ⟨_, upd_same, RWs.set j (RW.fr hS f w v hw) (RWs.fr hS f xs ys r)⟩
        exact set_list pins sh σ H _ _ _ _ _ _ Q I ro ri rv ⟨p, ys, k, j, rfl, rfl, e3, ej, q is _ h1 f1⟩
      · cases e
    · rename_i kvs el
      obtain ⟨ys, e3, r⟩ := hS.ob l _ p el hp
      obtain ⟨k, ek, e⟩ := Option.bind_eq_some_iff.mp e
      split at e
      · rename_i hl
        cases e
        cases key_of hb ek
        obtain ⟨h1, f1⟩ := hS.write (o := .dK (putK ys k v)) (ob' := .dic (storK kvs k w)) el hp rfl fun f => ⟨_, upd_same, stor_k (RW.fr hS f w v hw) (RKs.fr hS f kvs ys r)⟩
        exact set_dict hu pins sh σ H _ _ _ _ _ _ Q I ro ri rv ⟨p, _, rfl, .k e3 (by rw [ks_len r]; exact hl), q is _ h1 f1⟩
      · cases e
    · cases e
  · cases e
end Pe

set_option Elab.async false
set_option linter.all false
set_option maxRecDepth 100000
/-! Targets, statements, loops. -/
namespace Pe
open PySem PySem.Spec PyProof.Rows L2
variable {T : Tb} {E : XK} {X : Cx} {S S1 S2 : Sto} {is is1 is2 : List Addr} {H H1 H2 : Hp} {s : L2.St} {P : Pg} {Fn : Fo}

/-! ### slots forgotten -/
theorem wipe_get (σ : L2.St) : ∀ (vs : List Nat) (j : Nat), (wipe σ vs)[j]? = if j ∈ vs ∧ j < σ.length then some none else σ[j]?
  | [], j => by simp [wipe]
  | v :: vs, j => by
    unfold wipe
    by_cases e : v = j
    · subst e
      by_cases hl : v < σ.length
      · rw [List.getElem?_set_self (by rw [wipe_length]; exact hl), if_pos ⟨List.mem_cons_self, hl⟩]
      · rw [List.getElem?_eq_none (by rw [List.length_set, wipe_length]; omega), if_neg (fun z => hl z.2), List.getElem?_eq_none (by omega)]
    · rw [List.getElem?_set_ne e, wipe_get σ vs j]
      have : (j ∈ v :: vs) ↔ j ∈ vs := by
        rw [List.mem_cons]
        exact ⟨fun z => z.resolve_left (fun q => e q.symm), .inr⟩
      simp only [this]
theorem wipeE_length (r : Ev) : ∀ vs : List Nat, (wipeE r vs).length = r.length
  | [] => rfl
  | v :: vs => by unfold wipeE; rw [List.length_set, wipeE_length r vs]
theorem wipeE_get (r : Ev) : ∀ (vs : List Nat) (j : Nat), (wipeE r vs)[j]? = if j ∈ vs ∧ j < r.length then some .unb else r[j]?
  | [], j => by simp [wipeE]
  | v :: vs, j => by
    unfold wipeE
    by_cases e : v = j
    · subst e
      by_cases hl : v < r.length
      · rw [List.getElem?_set_self (by rw [wipeE_length]; exact hl), if_pos ⟨List.mem_cons_self, hl⟩]
      · rw [List.getElem?_eq_none (by rw [List.length_set, wipeE_length]; omega), if_neg (fun z => hl z.2), List.getElem?_eq_none (by omega)]
    · rw [List.getElem?_set_ne e, wipeE_get r vs j]
      have : (j ∈ v :: vs) ↔ j ∈ vs := by
        rw [List.mem_cons]
        exact ⟨fun z => z.resolve_left (fun q => e q.symm), .inr⟩
      simp only [this]
theorem RE.wipe {r : Ev} {σ : L2.St} (h : RE T is H r σ) (vs : List Nat) : RE T is H (wipeE r vs) (L2.wipe σ vs) := by
  refine ⟨by rw [wipeE_length, wipe_length]; exact h.len, fun i w e n => ?_⟩
  rw [wipeE_get] at e
  split at e
  · cases e; exact absurd rfl n
  · rename_i q
    obtain ⟨v, h1, h2⟩ := h.at_ i w e n
    refine ⟨v, ?_, h2⟩
    rw [wipe_get, if_neg (by rw [← h.len]; exact q)]
    exact h1
theorem wipe_set {σ : L2.St} {i : Nat} {x : Option V} {vs : List Nat} (h : i ∈ vs) : wipe (σ.set i x) vs = wipe σ vs := by
  refine List.ext_getElem? fun j => ?_
  rw [wipe_get, wipe_get, List.length_set]
  by_cases e : i = j
  · subst e
    by_cases hl : i < σ.length
    · rw [if_pos ⟨h, hl⟩, if_pos ⟨h, hl⟩]
    · rw [if_neg fun z => hl z.2, if_neg fun z => hl z.2, List.getElem?_eq_none (by rw [List.length_set]; omega), List.getElem?_eq_none (by omega)]
  · rw [List.getElem?_set_ne e]
theorem RE.set {r : Ev} {σ : L2.St} (h : RE T is H r σ) {i : Nat} {w : Wv} {v : V} (hw : RW T is H w v) : RE T is H (r.set i w) (σ.set i (some v)) := by
  refine ⟨by rw [List.length_set, List.length_set]; exact h.len, fun j u e n => ?_⟩
  by_cases z : i = j
  · subst z
    have hl : i < r.length := by
      have := (List.getElem?_eq_some_iff.mp e).1
      rw [List.length_set] at this
      exact this
    rw [List.getElem?_set_self hl] at e
    cases e
    exact ⟨v, List.getElem?_set_self (by rw [← h.len]; exact hl), hw⟩
  · rw [List.getElem?_set_ne z] at e
    obtain ⟨y, h1, h2⟩ := h.at_ j u e n
    exact ⟨y, by rw [List.getElem?_set_ne z]; exact h1, h2⟩

/-! ### targets -/
mutual
def gG (K : PySem.W.Frag) : Tg → TG
  | .nm i => gName i
  | .tp ts => gTup K ts.length (gGs K ts)
def gGs (K : PySem.W.Frag) : List Tg → TGs
  | [] => gNil
  | t :: ts => gCons (gG K t) (gGs K ts)
end
abbrev Kept (σ' σ : L2.St) (is : List Nat) : Prop := ∀ vs : List Nat, (∀ i ∈ is, i ∈ vs) → wipe σ' vs = wipe σ vs
mutual
theorem gG_of : ∀ (g : Tg) {w : Wv} {v : V} {r r' : Ev} {σ : L2.St} {Q : L2.St → Hp → Prop}, bindG g w r = some r' → RE T is H r σ → RW T is H w v → (∀ σ', RE T is H r' σ' → Kept σ' σ (slotsG g) → Q σ' H) → gG T.K g v σ H Q
  | .nm i, w, v, r, r', σ, Q, e, hr, hw, q => by
    unfold gG gName
    unfold bindG at e
    split at e
    · cases e
      exact q _ (hr.set hw) fun vs h => wipe_set (h i (by simp [slotsG]))
    · cases e
  | .tp ts, w, v, r, r', σ, Q, e, hr, hw, q => by
    unfold gG gTup
    cases w with
    | tup xs =>
      unfold bindG at e
      dsimp only at e
      unfold RW at hw
      obtain ⟨a, ys, rfl, h1, h2⟩ := hw
      refine ⟨a, ys, rfl, h1, ?_, gGs_of ts e hr h2 (fun σ' h3 h4 => q σ' h3 (by simpa [slotsG] using h4))⟩
      rw [← h2.length]
      exact bindGs_len ts e
    | _ => simp [bindG] at e
theorem gGs_of : ∀ (ts : List Tg) {ws : List Wv} {vs : List V} {r r' : Ev} {σ : L2.St} {Q : L2.St → Hp → Prop}, bindGs ts ws r = some r' → RE T is H r σ → RWs T is H ws vs → (∀ σ', RE T is H r' σ' → Kept σ' σ (slotsGs ts) → Q σ' H) → gGs T.K ts vs σ H Q
  | [], ws, vs, r, r', σ, Q, e, hr, hw, q => by
    unfold gGs gNil
    cases ws with
    | nil =>
      simp only [bindGs] at e
      cases e
      unfold RWs at hw
      exact ⟨hw, q σ hr fun _ _ => rfl⟩
    | cons x xs => simp [bindGs] at e
  | t :: ts, ws, vs, r, r', σ, Q, e, hr, hw, q => by
    unfold gGs gCons
    cases ws with
    | nil => simp [bindGs] at e
    | cons x xs =>
      unfold RWs at hw
      obtain ⟨y, u, rfl, h1, h2⟩ := hw
      simp only [bindGs] at e
      obtain ⟨r1, e1, e2⟩ := Option.bind_eq_some_iff.mp e
      refine ⟨y, u, rfl, gG_of t e1 hr h1 fun σ1 h3 h4 => gGs_of ts e2 h3 h2 fun σ2 h5 h6 => q σ2 h5 fun vs h => ?_⟩
      rw [h6 vs fun i hi => h i (by simp [slotsGs, hi]), h4 vs fun i hi => h i (by simp [slotsGs, hi])]
theorem bindGs_len : ∀ (ts : List Tg) {ws : List Wv} {r r' : Ev}, bindGs ts ws r = some r' → ws.length = ts.length
  | [], ws, r, r', e => by cases ws with
    | nil => rfl
    | cons x xs => simp [bindGs] at e
  | t :: ts, ws, r, r', e => by cases ws with
    | nil => simp [bindGs] at e
    | cons x xs =>
      simp only [bindGs] at e
      obtain ⟨r1, e1, e2⟩ := Option.bind_eq_some_iff.mp e
      rw [List.length_cons, List.length_cons, bindGs_len ts e2]
end

/-! ### statements -/
def qF (T : Tb) (D : Ends) (is : List Addr) (H : Hp) : Fl → Prop
  | .nx r => ∀ s, RE T is H r s → D.nx s H
  | .rt w => ∀ v, RW T is H w v → D.rt v H
  | .bk r => ∀ s, RE T is H r s → D.bk s H
  | .ct r => ∀ s, RE T is H r s → D.ct s H
def qS (T : Tb) (S : Sto) (is : List Addr) (H : Hp) (D : Ends) : Fl → Sto → Prop := fun f S' => ∀ is' H', RS T S' is' H' → Fr S is H S' is' H' → qF T D is' H' f
abbrev Mf := Ev → Sto → R Fl
def tSt (T : Tb) (E : XK) (m : Mf) : TS := fun D s H => ∃ S is r, RS T S is H ∧ RE T is H r s ∧ (m r S).post (qS T S is H D) (qX T E S is H)
theorem qS.fr (f : Fr S is H S1 is1 H1) {D : Ends} {w : Fl} {S2 : Sto} (h : qS T S is H D w S2) : qS T S1 is1 H1 D w S2 := fun is' H' h1 h2 => h is' H' h1 (f.trans h2)
theorem tW_st {m : Mw Wv} {k : Ev → Wv → Sto → R Fl} {D : Ends} (h : tSt T E (fun r S => (m r S).bind (k r)) D s H) : tW T E m s H fun x H1 => ∃ S is r w, RS T S is H1 ∧ RE T is H1 r s ∧ RW T is H1 w x ∧ (k r w S).post (qS T S is H1 D) (qX T E S is H1) := by
  obtain ⟨S, is, r, hS, hr, hp⟩ := h
  exact ⟨S, is, r, hS, hr, R.post_mono (R.post_bind hp) (fun w S1 q is1 H1 x h1 f hw => ⟨S1, is1, r, w, h1, hr.fr hS f, hw, R.post_mono q (fun _ _ z => z.fr f) fun _ _ _ z => z.fr f⟩) fun _ _ _ z => z⟩
theorem s_nil : PSs X [] (tSt T E fun r S => .ok (.nx r) S) := by
  refine ⟨fun pins sh σ H D I ⟨S, is, r, hS, hr, hp⟩ => ?_⟩
  exact wpAny_execs_nil ⟨σ, H, I, hp is H hS .rfl' σ hr⟩
theorem s_cons {st : Stmt} {sts : List Stmt} {m ms : Mf} (h1 : PS X st (tSt T E m)) (h2 : PSs X sts (tSt T E ms)) :
    PSs X (st :: sts) (tSt T E fun r S => (m r S).bind fun f S1 => match f with
      | .nx r1 => ms r1 S1
      | f => .ok f S1) := by
  refine ⟨fun pins sh σ H D I ⟨S, is, r, hS, hr, hp⟩ => ?_⟩
  refine wpAny_execs_cons (thn (h1.run pins sh σ H { D with nx := fun σ1 H1 => tSt T E ms D σ1 H1 } I ⟨S, is, r, hS, hr, R.post_mono (R.post_bind hp) (fun f S1 q is1 H1 h1 fr => ?_) fun _ _ _ z => z⟩) fun f s1 q => ?_)
  · cases f with
    | nx r1 => exact fun s1 hr1 => ⟨S1, is1, r1, h1, hr1, R.post_mono q (fun _ _ z => z.fr fr) fun _ _ _ z => z.fr fr⟩
    | rt w => exact q is1 H1 h1 fr
    | bk r1 => exact q is1 H1 h1 fr
    | ct r1 => exact q is1 H1 h1 fr
  · cases f with
    | next =>
      obtain ⟨σ1, H1, I1, q1⟩ := q
      exact h2.run pins s1 σ1 H1 D I1 q1
    | ret v => exact q
    | brk => exact q
    | cont => exact q
theorem _root_.L2.PS.weak {X : Cx} {st : Stmt} {t t' : TS} (h : PS X st t) (w : ∀ D s H, t' D s H → t D s H) : PS X st t' := ⟨fun pins s σ H D I q => h.run pins s σ H D I (w _ _ _ q)⟩
theorem s_asg {tg e : Expr} {g : Tg} {pos : Pos} {m : Mw Wv} (hK : X.K = T.K) (he : PE X e (tW T E m)) (hg : PG X tg (gG X.K g)) (hs : swapsWithSole [tg] e pos.line X.env = pure false) (hw : swappedStores [tg] e X.env = pure none) (hn : notStar tg = true) :
    PS X (.Assign [tg] e pos) (tSt T E fun r S => (m r S).bind fun x S1 => match bindG g x r with
      | some r' => .ok (.nx r') S1
      | none => .bad) := (ps_asg he hg hs hw (asg_one hn)).weak fun D s H h => by
  refine tW_mono (tW_st (k := fun r x S1 => match bindG g x r with
      | some r' => .ok (.nx r') S1
      | none => .bad) h) fun x H1 ⟨S, is, r, w, hS, hr, hw, hp⟩ => ?_
  split at hp
  · rename_i r' e
    rw [hK]
    exact gG_of g e hr hw fun σ' h1 _ => hp is H1 hS .rfl' σ' h1
  · exact hp.elim
theorem s_ex {e : Expr} {pos : Pos} {m : Mw Wv} (he : PE X e (tW T E m)) (hs : swapsWith e none pos.line X.env = pure false) : PS X (.Expr e pos) (tSt T E fun r S => (m r S).bind fun _ S1 => .ok (.nx r) S1) := (ps_expr he hs).weak fun D s H h =>
  tW_mono (tW_st (k := fun r _ S1 => .ok (.nx r) S1) h) fun x H1 ⟨S, is, r, w, hS, hr, hw, hp⟩ => hp is H1 hS .rfl' s hr
theorem s_ret {e : Expr} {pos : Pos} {m : Mw Wv} (he : PE X e (tW T E m)) : PS X (.Return (some e) pos) (tSt T E fun r S => (m r S).bind fun v S1 => .ok (.rt v) S1) := (ps_ret he).weak fun D s H h =>
  tW_mono (tW_st (k := fun _ v S1 => .ok (.rt v) S1) h) fun x H1 ⟨S, is, r, w, hS, hr, hw, hp⟩ => hp is H1 hS .rfl' x hw
theorem s_retN {pos : Pos} : PS X (.Return none pos) (tSt T E fun r S => (R.ok Wv.non S).bind fun v S1 => .ok (.rt v) S1) := ps_retN.weak fun D s H ⟨S, is, r, hS, hr, hp⟩ => hp is H hS .rfl' .non rw_non
theorem s_nx {pos : Pos} : PS X (.Pass pos) (tSt T E fun r S => .ok (.nx r) S) := ps_pass.weak fun D s H ⟨S, is, r, hS, hr, hp⟩ => hp is H hS .rfl' s hr
theorem s_doc {x : Str} {j : Nat} {pos pos' : Pos} : PS X (.Expr (.Constant (.str x) j pos) pos') (tSt T E fun r S => .ok (.nx r) S) := ps_doc.weak fun D s H ⟨S, is, r, hS, hr, hp⟩ => hp is H hS .rfl' s hr
theorem s_brk {pos : Pos} : PS X (.Break pos) (tSt T E fun r S => .ok (.bk r) S) := ps_break.weak fun D s H ⟨S, is, r, hS, hr, hp⟩ => hp is H hS .rfl' s hr
theorem s_cont {pos : Pos} : PS X (.Continue pos) (tSt T E fun r S => .ok (.ct r) S) := ps_continue.weak fun D s H ⟨S, is, r, hS, hr, hp⟩ => hp is H hS .rfl' s hr
theorem s_never {st : Stmt} : PS X st (tSt T E fun _ _ => .bad) := ps_never.weak fun D s H ⟨S, is, r, hS, hr, hp⟩ => hp
theorem s_if {c : Expr} {a b : List Stmt} {pos : Pos} {mc : Mw Bool} {ma mb : Mf} (hc : PT X c (tBl T E mc)) (ha : PSs X a (tSt T E ma)) (hb : PSs X b (tSt T E mb)) :
    PS X (.If c a b pos) (tSt T E fun r S => (mc r S).bind fun x S1 => if x = true then ma r S1 else mb r S1) := (ps_if hc ha hb).weak fun D s H ⟨S, is, r, hS, hr, hp⟩ => by
  refine ⟨S, is, r, hS, hr, R.post_mono (R.post_bind hp) (fun b S1 q is1 H1 h1 f => ?_) fun _ _ _ z => z⟩
  cases b with
  | true => exact ⟨S1, is1, r, h1, hr.fr hS f, R.post_mono q (fun _ _ z => z.fr f) fun _ _ _ z => z.fr f⟩
  | false => exact ⟨S1, is1, r, h1, hr.fr hS f, R.post_mono q (fun _ _ z => z.fr f) fun _ _ _ z => z.fr f⟩
theorem sub_ok {o i : Expr} {p : Pos} {env : Env} (h : plainIxB i = true) : ∀ v, assign (.Subscript o i p) env v = (do
      let ov ← holding [v] (eval o env)
      let iv ← holding [v, ov] (eval i env)
      standAt p
      holding [v, ov, iv] (setItem ov iv v)
      release [v, ov, iv] []) := fun v => by
  cases i <;> first | rfl | cases h
/-- o[i] = e -/
theorem s_seti {o i e : Expr} {p2 pos : Pos} {mo mi me : Mw Wv} (hu : X.A.units + 1 < cLine) (ho : PE X o (tW T E mo)) (hi : PE X i (tW T E mi)) (he : PE X e (tW T E me)) (hs : swapsWithSole [.Subscript o i p2] e pos.line X.env = pure false) (hw : swappedStores [.Subscript o i p2] e X.env = pure none) (hx : plainIxB i = true) :
    PS X (.Assign [.Subscript o i p2] e pos) (tSt T E fun r S => (me r S).bind fun v S1 => (mo r S1).bind fun x S2 => (mi r S2).bind fun y S3 => match setI S3 x y v with
      | some S4 => .ok (.nx r) S4
      | none => .bad) := (ps_asg he (pg_sub ho hi (set_any (T := T) hu) (sub_ok hx)) hs hw rfl).weak fun D s H h => by
  refine tW_mono (tW_st (k := fun r v S1 => (mo r S1).bind fun x S2 => (mi r S2).bind fun y S3 => match setI S3 x y v with
      | some S4 => .ok (.nx r) S4
      | none => .bad) h) fun v H1 ⟨S1, is1, r, wv, hS1, hr1, hv, hp⟩ => ?_
  refine ⟨S1, is1, r, hS1, hr1, R.post_mono (R.post_bind hp) (fun wx S2 q2 is2 H2 x h2 f2 hx => ?_) fun _ _ _ z => z⟩
  refine ⟨S2, is2, r, h2, hr1.fr hS1 f2, R.post_mono (R.post_bind q2) (fun wy S3 q3 is3 H3 y h3 f3 hy => ?_) fun _ _ _ z => z.fr f2⟩
  split at q3
  · rename_i S4 e4
    refine ⟨S3, is3, wx, wy, wv, S4, h3, RW.fr h2 f3 wx x hx, hy, RW.fr h2 f3 wv v (RW.fr hS1 f2 wv v hv), e4, fun is4 H4 h4 f4 => ?_⟩
    have ff := f2.trans (f3.trans f4)
    exact q3 is4 H4 h4 ff s (hr1.fr hS1 ff)
  · exact q3.elim
/-- o.f = e -/
theorem s_seta {o e : Expr} {f : Nat} {p2 pos : Pos} {mo me : Mw Wv} (hK : X.K = T.K) (ok : TbOk T P) (ho : PE X o (tW T E mo)) (he : PE X e (tW T E me)) (hs : swapsWith e (some (.Attribute o (T.an f) p2)) pos.line X.env = pure false) :
    PS X (.Assign [.Attribute o (T.an f) p2] e pos) (tSt T E fun r S => (me r S).bind fun v S1 => (mo r S1).bind fun x S2 => match setA P S2 x f v with
      | some S3 => .ok (.nx r) S3
      | none => .bad) := (ps_fld ho he hs).weak fun D s H h => by
  refine tW_mono (tW_st (k := fun r v S1 => (mo r S1).bind fun x S2 => match setA P S2 x f v with
      | some S3 => .ok (.nx r) S3
      | none => .bad) h) fun v H1 ⟨S1, is1, r, wv, hS1, hr1, hv, hp⟩ => ?_
  refine ⟨S1, is1, r, hS1, hr1, R.post_mono (R.post_bind hp) (fun wx S2 q2 is2 H2 x h2 f2 hx => ?_) fun _ _ _ z => z⟩
  split at q2
  · rename_i S3 e3
    unfold setA at e3
    split at e3
    · rename_i l
      unfold RW at hx
      obtain ⟨a, rfl, ha⟩ := hx
      split at e3
      · rename_i c fs el
        obtain ⟨dx, ys, e5, rr⟩ := h2.ob l _ a el ha
        split at e3
        · rename_i hc
          cases e3
          obtain ⟨g1, f3⟩ := h2.write (o := .ins (T.ca c) dx (putF (T.an f) v ys)) (ob' := .ins c (storF fs f wv)) el ha rfl fun ff => ⟨dx, _, upd_same, put_f ok.inj (RW.fr h2 ff wv v (RW.fr hS1 f2 wv v hv)) (RFs.fr h2 ff fs ys rr)⟩
          exact ⟨a, _, dx, ys, rfl, e5, hK ▸ ok.cls c f hc.2, hK ▸ ok.fld c f hc.2, by rw [fs_len rr]; exact hc.1, q2 is2 _ g1 (f2.trans f3) s (hr1.fr hS1 (f2.trans f3))⟩
        · cases e3
      · cases e3
    · cases e3
  · exact q2.elim
end Pe

set_option Elab.async false
set_option linter.all false
set_option maxRecDepth 100000
/-! Iterables, for loops. -/
namespace Pe
open PySem PySem.Spec PyProof.Rows L2
variable {T : Tb} {E : XK} {X : Cx} {S S1 S2 : Sto} {is is1 is2 : List Addr} {H H1 H2 : Hp} {s : L2.St} {P : Pg} {Fn : Fo}

/-- the iterator J hands out the items i, one after another -/
def Gv (T : Tb) (J : It) (i : Its) (S0 : Sto) (is0 : List Addr) (H0 : Hp) : Prop :=
  ∀ (n : Nat) (S : Sto) (is : List Addr) (H : Hp), RS T S is H → Fr S0 is0 H0 S is H → i.ok S = true →
    (i.xs.length ≤ n → J.stop n H) ∧ ∀ w, i.xs[n]? = some w → J.go n H ∧ ∀ x H', J.yld n H x H' → RS T S is H' ∧ Fr S is H S is H' ∧ RW T is H' w x
def tI (T : Tb) (E : XK) (m : Ev → Sto → R Its) : TI := fun s H Rk => ∃ S is r, RS T S is H ∧ RE T is H r s ∧ (m r S).post (fun i S' => ∀ is' H' J, RS T S' is' H' → Fr S is H S' is' H' → Gv T J i S' is' H' → Rk J H') (qX T E S is H)

/-- over a list: its items as they stand in all later states that keep the guard -/
theorem gv_list {K : PySem.W.Frag} {a : Addr} {i : Its} (h : ∀ S is H, RS T S is H → Fr S1 is1 H1 S is H → i.ok S = true → ∃ ys, SqL K H a ys ∧ RWs T is H i.xs ys) : Gv T (Itl K a) i S1 is1 H1 := fun n S is H hS f ok => by
  obtain ⟨ys, h1, h2⟩ := h S is H hS f ok
  refine ⟨fun hn => ⟨ys, h1, by rw [← h2.length]; exact hn⟩, fun w hw => ?_⟩
  obtain ⟨y, g1, g2⟩ := h2.get hw
  refine ⟨⟨ys, y, h1, g1⟩, fun x H' ⟨e, q⟩ => ?_⟩
  subst e
  have := q ys h1
  rw [g1] at this
  cases this
  exact ⟨hS, .rfl', g2⟩
theorem gv_tup {K : PySem.W.Frag} {a : Addr} {i : Its} (h : ∀ S is H, RS T S is H → Fr S1 is1 H1 S is H → i.ok S = true → ∃ ys, SqT K H a ys ∧ RWs T is H i.xs ys) : Gv T (Itt K a) i S1 is1 H1 := fun n S is H hS f ok => by
  obtain ⟨ys, h1, h2⟩ := h S is H hS f ok
  refine ⟨fun hn => ⟨ys, h1, by rw [← h2.length]; exact hn⟩, fun w hw => ?_⟩
  obtain ⟨y, g1, g2⟩ := h2.get hw
  refine ⟨⟨ys, y, h1, g1⟩, fun x H' ⟨e, q⟩ => ?_⟩
  subst e
  have := q ys h1
  rw [g1] at this
  cases this
  exact ⟨hS, .rfl', g2⟩
theorem gv_rng {n : Nat} : Gv T (Itr 0 n) ⟨(List.range n).map fun (i : Nat) => .int (i : Int), none⟩ S1 is1 H1 := fun k S is H hS f ok => by
  refine ⟨fun hn => by
    have z : n ≤ k := by simpa using hn
    exact z, fun w hw => ?_⟩
  obtain ⟨hl, e⟩ : k < n ∧ w = .int (k : Int) := by
    dsimp only at hw
    by_cases hl : k < n
    · refine ⟨hl, ?_⟩
      rw [List.getElem?_map, List.getElem?_range hl] at hw
      exact (Option.some.inj hw).symm
    · rw [List.getElem?_eq_none (by simpa using hl)] at hw
      cases hw
  subst e
  refine ⟨hl, fun x H' ⟨e, q⟩ => ?_⟩
  subst e q
  exact ⟨hS, .rfl', by
    have : (0 : Int) + (k : Int) = k := by omega
    rw [this]
    exact rw_int⟩
theorem gv_str {x : Str} : Gv T (L2.Its x) ⟨x.cps.toList.map fun c => .str ⟨#[c]⟩, none⟩ S1 is1 H1 := fun k S is H hS f ok => by
  refine ⟨fun hn => by
    have z : x.cps.size ≤ k := by simpa using hn
    exact z, fun w hw => ?_⟩
  dsimp only at hw
  rw [List.getElem?_map] at hw
  obtain ⟨c, hc, e⟩ := Option.map_eq_some_iff.mp hw
  subst e
  have hc' : x.cps[k]? = some c := by rw [← Array.getElem?_toList]; exact hc
  have hl : k < x.cps.size := (Array.getElem?_eq_some_iff.mp hc').1
  refine ⟨hl, fun v H' ⟨e, d, hd, q⟩ => ?_⟩
  subst e q
  rw [hc'] at hd
  cases hd
  exact ⟨hS, .rfl', rw_str⟩
theorem enum_get : ∀ (n : Nat) (xs : List Wv) (k : Nat) (w : Wv), (enumW n xs)[k]? = some w → ∃ x, xs[k]? = some x ∧ w = .tup [.int ((n + k : Nat) : Int), x]
  | _, [], _, _, h => by simp [enumW] at h
  | n, x :: xs, 0, w, h => by
    unfold enumW at h
    exact ⟨x, rfl, by
      have := Option.some.inj h
      rw [← this]
      rfl⟩
  | n, x :: xs, k + 1, w, h => by
    unfold enumW at h
    obtain ⟨y, h1, h2⟩ := enum_get (n + 1) xs k w (by simpa using h)
    refine ⟨y, by simpa using h1, ?_⟩
    rw [h2]
    have : n + 1 + k = n + (k + 1) := by omega
    rw [this]
theorem enum_len : ∀ (n : Nat) (xs : List Wv), (enumW n xs).length = xs.length
  | _, [] => rfl
  | n, x :: xs => by unfold enumW; rw [List.length_cons, List.length_cons, enum_len (n + 1) xs]
theorem gv_enum {K : PySem.W.Frag} (hK : T.K = K) {a : Addr} {xs : List Wv} {g : Option (Nat × List Wv)} (h : ∀ S is H, RS T S is H → Fr S1 is1 H1 S is H → Its.ok ⟨xs, g⟩ S = true → ∃ ys, SqL K H a ys ∧ RWs T is H xs ys) : Gv T (Ite K a) ⟨enumW 0 xs, g⟩ S1 is1 H1 := fun n S is H hS f ok => by
  obtain ⟨ys, h1, h2⟩ := h S is H hS f ok
  refine ⟨fun hn => ⟨ys, h1, by
    dsimp only at hn
    rw [enum_len] at hn
    rw [← h2.length]
    exact hn⟩, fun w hw => ?_⟩
  obtain ⟨x, e1, e2⟩ := enum_get 0 xs n w hw
  subst e2
  obtain ⟨y, g1, g2⟩ := h2.get e1
  refine ⟨⟨ys, y, h1, g1⟩, fun v H' ⟨t, z, ev, nt, e, q⟩ => ?_⟩
  subst e ev
  have := q ys h1
  rw [g1] at this
  cases this
  refine ⟨hS.new nt, .new hS nt, .tup_new hS nt (.cons ?_ (.cons g2 .nil))⟩
  rw [Nat.zero_add]
  exact rw_int

/-! ### the rules -/
/-- the list that is walked, in all later states -/
theorem walkL_ok {w : Wv} {x : V} {i : Its} (hS : RS T S is H) (hw : RW T is H w x) (e : walkL S w = some i) : ∃ a, x = .ref a ∧ ∀ S' is' H', RS T S' is' H' → Fr S is H S' is' H' → i.ok S' = true → ∃ ys, SqL T.K H' a ys ∧ RWs T is' H' i.xs ys := by
  cases w with
  | lst xs =>
    cases e
    have hw' := hw
    unfold RW at hw
    obtain ⟨a, ys, rfl, h1, h2⟩ := hw
    exact ⟨a, rfl, fun S' is' H' h' f _ => ⟨ys, (FzL.fr hS f h1).sq, RWs.fr hS f xs ys h2⟩⟩
  | scr xs =>
    cases e
    unfold RW at hw
    obtain ⟨a, ys, rfl, h1, h2⟩ := hw
    refine ⟨a, rfl, fun S' is' H' h' f _ => ⟨ys, ?_, RWs.fr hS f xs ys h2⟩⟩
    rcases h1 with h1 | h1
    · exact (FzL.fr hS f h1).sq
    · exact .inr h1
  | ref l =>
    unfold RW at hw
    obtain ⟨a, rfl, ha⟩ := hw
    unfold walkL at e
    dsimp only at e
    split at e
    · rename_i xs el
      cases e
      refine ⟨a, rfl, fun S' is' H' h' f ok => ?_⟩
      unfold Its.ok at ok
      dsimp only at ok
      split at ok
      · rename_i zs el'
        cases sames_eq _ _ ok
        obtain ⟨ys, e3, r⟩ := h'.ob l _ a el' (f.at_ ha)
        exact ⟨ys, SqL.of e3, r⟩
      · cases ok
    · cases e
  | _ => cases e
/-- for .. in e -/
theorem i_any {tg e : Expr} {m : Mw Wv} (hK : X.K = T.K) (he : PE X e (tW T E m)) : PI X tg e (tI T E fun r S => (m r S).bind fun x S1 => R.of (walkOf S1 x) S1) := by
  refine ⟨fun pins sh σ H Rk I ⟨S, is, r, hS, hr, hp⟩ => ?_⟩
  refine thn (he.run pins sh σ H (fun x H1 => ∃ S1 is1 w, RS T S1 is1 H1 ∧ RW T is1 H1 w x ∧ ∃ i, walkOf S1 w = some i ∧ ∀ J, Gv T J i S1 is1 H1 → Rk J H1) I ⟨S, is, r, hS, hr, R.post_mono (R.post_bind hp) (fun w S1 q is1 H1 x h1 f hw => ?_) fun _ _ _ z => z⟩) fun v s1 ⟨x, H1, I1, r1, S1, is1, w, h1, hw, i, e, q⟩ => ?_
  · obtain ⟨i, e, q⟩ := R.post_of q
    exact ⟨S1, is1, w, h1, hw, i, e, fun J g => q is1 H1 J h1 f g⟩
  · have lst : walkL S1 w = some i → wpAny (model X.prog X.w) X.A (pyIter v) (PIE X pins σ tg Rk) X.xe s1 := fun el => by
      obtain ⟨a, rfl, g⟩ := walkL_ok h1 hw el
      obtain rfl : v = Value.ref a := r1
      have gi : i.ok S1 = true := by
        cases w with
        | lst xs => cases el; rfl
        | scr xs => cases el; rfl
        | ref l =>
          unfold walkL at el
          dsimp only at el
          split at el
          · rename_i xs e0
            cases el
            unfold Its.ok
            dsimp only
            rw [e0]
            exact sames_refl xs
          · cases el
        | _ => cases el
      obtain ⟨ys, hq, _⟩ := g S1 is1 H1 h1 .rfl' gi
      rw [← hK] at hq
      obtain ⟨its, rv, p, hz⟩ := I1.list hq
      exact wpAny_pyIter_list p.isList (pi_one (tk := s1.toks) I1 _ (turn_list a _) ⟨_, Heap.get?_push_size _ rfl, rfl, rfl⟩ (q _ (gv_list (hK ▸ g))))
    cases w with
    | lst xs => exact lst e
    | scr xs => exact lst e
    | ref l => exact lst e
    | tup xs =>
      cases e
      unfold RW at hw
      obtain ⟨a, ys, rfl, g1, g2⟩ := hw
      obtain rfl : v = Value.ref a := r1
      rw [← hK] at g1
      obtain ⟨its, rv, p, hz⟩ := I1.tuple g1
      exact wpAny_pyIter_tuple (show s1.heap.IsTuple a its.toArray from p) (pi_one (tk := s1.toks) I1 _ (turn_tuple a _) ⟨_, Heap.get?_push_size _ rfl, rfl, rfl⟩ (q _ (gv_tup fun S' is' H' h' f _ => ⟨ys, SqT_fr h1 f g1, RWs.fr h1 f xs ys g2⟩)))
    | str z =>
      cases e
      cases RW.inj_str hw
      obtain ⟨t, rfl⟩ := r1
      cases ha : z.cps.all (· < 128)
      · exact wpAny_pyIter_wide ha (pi_one (tk := s1.toks) I1 _ (turn_str _ z t "str_iterator" (.inr rfl)) ⟨_, Heap.get?_push_size _ rfl, rfl, rfl⟩ (q _ gv_str))
      · exact wpAny_pyIter_ascii ha (pi_one (tk := s1.toks) I1 _ (turn_str _ z t "str_ascii_iterator" (.inl rfl)) ⟨_, Heap.get?_push_size _ rfl, rfl, rfl⟩ (q _ gv_str))
    | _ => cases e
theorem i_rng {tg a : Expr} {p pos : Pos} {ms : Mw (List Wv)} (hg : Gl X "range") (hm : X.mg "range" = none) (ha : PA X [a] (tWs T E ms)) (hs : notStar a = true) :
    PI X tg (.Call (.Name "range" p) [a] [] pos) (tI T E fun r S => (ms r S).bind fun xs S1 => match xs with
      | [.int n] => if -(2 ^ 62) ≤ n ∧ n < 2 ^ 62 then .ok ⟨(List.range n.toNat).map fun (i : Nat) => .int (i : Int), none⟩ S1 else .bad
      | _ => .bad) := by
  refine ⟨fun pins sh σ H Rk I ⟨S, is, r, hS, hr, hp⟩ => (pi_range1 (tg := tg) hg hm ha (star_ok hs)).run pins sh σ H Rk I ⟨S, is, r, hS, hr, R.post_mono (R.post_bind hp) (fun ws S1 q is1 H1 vs h1 f hw => ?_) fun _ _ _ z => z⟩⟩
  split at q
  · rename_i n
    split at q
    · rename_i hn
      obtain ⟨y, rfl, hy⟩ := rws_one hw
      cases RW.inj_int hy
      exact ⟨n, rfl, hn.1, hn.2, q is1 H1 _ h1 f gv_rng⟩
    · exact q.elim
  · exact q.elim
theorem i_enm {a : Expr} {elts : List Expr} {kk : Nat} {p tpos pos : Pos} {m : Mw Wv} (hK : X.K = T.K) (hg : Gl X "enumerate") (hm : X.mg "enumerate" = none) (ha : PE X a (tW T E m)) (hs : notStar a = true) :
    PI X (.Tuple elts kk tpos) (.Call (.Name "enumerate" p) [a] [] pos) (tI T E fun r S => (m r S).bind fun x S1 => R.of ((walkL S1 x).map fun i => ⟨enumW 0 i.xs, i.gd⟩) S1) := by
  refine ⟨fun pins sh σ H Rk I ⟨S, is, r, hS, hr, hp⟩ => (pi_enum hg hm (pa_cons ha pa_nil (star_ok hs)) (star_ok hs)).run pins sh σ H Rk I ⟨S, is, r, hS, hr, R.post_mono (R.post_bind hp) (fun w S1 q is1 H1 x h1 f hw => ?_) fun _ _ _ z => z⟩⟩
  obtain ⟨i, e, q⟩ := R.post_of q
  obtain ⟨i0, e0, rfl⟩ := Option.map_eq_some_iff.mp e
  obtain ⟨b, rfl, g⟩ := walkL_ok h1 hw e0
  have gi : i0.ok S1 = true := by
    cases w with
    | lst xs => cases e0; rfl
    | scr xs => cases e0; rfl
    | ref l =>
      unfold walkL at e0
      dsimp only at e0
      split at e0
      · rename_i xs e1
        cases e0
        unfold Its.ok
        dsimp only
        rw [e1]
        exact sames_refl xs
      · cases e0
    | _ => cases e0
  obtain ⟨ys, hq, _⟩ := g S1 is1 H1 h1 .rfl' gi
  refine ⟨b, ys, rfl, hK ▸ hq, q is1 H1 _ h1 f ?_⟩
  rw [hK]
  exact gv_enum (xs := i0.xs) (g := i0.gd) rfl fun S' is' H' h' f' ok => g S' is' H' h' f' ok
/-- for g in it: b -/
theorem s_for {tg it : Expr} {b : List Stmt} {g : Tg} {pos : Pos} {mi : Ev → Sto → R Its} {mb : Mf} (hK : X.K = T.K) (hp : PassesOwn (model X.prog X.w) X.A X.env X.xe) (hc : X.calm = true) (hi : PI X tg it (tI T E mi)) (hg : PG X tg (gG X.K g)) (hb : PSs X b (tSt T E mb))
    (hs : ∀ x, foldedSetIterable it X.env x = pure x) : PS X (.For tg it b [] pos) (tSt T E fun r S => (mi r S).bind fun i S1 => loopS g i.ok mb i.xs r S1) := (ps_for hp hc hi hg hb hs).weak fun D s H ⟨S, is, r, hS, hr, hq⟩ => by
  refine ⟨S, is, r, hS, hr, R.post_mono (R.post_bind hq) (fun i S0 q is0 H0 J h0 f0 gv => ?_) fun _ _ _ z => z⟩
  refine ⟨fun n m σ H => m = i.xs.length - n ∧ ∃ S is r, RS T S is H ∧ Fr S0 is0 H0 S is H ∧ RE T is H r σ ∧ (loopS g i.ok mb (i.xs.drop n) r S).post (qS T S is H D) (qX T E S is H), ⟨_, rfl, S0, is0, r, h0, .rfl', hr.fr hS f0, ?_⟩, ?_⟩
  · rw [List.drop_zero]
    exact R.post_mono q (fun _ _ z => z.fr f0) fun _ _ _ z => z.fr f0
  rintro n m σ H ⟨rfl, S, is, r, h1, f1, hr, w⟩
  cases hd : i.xs.drop n with
  | nil =>
    rw [hd] at w
    unfold loopS at w
    split at w
    · rename_i ok
      exact .inl ⟨(gv n S is H h1 f1 ok).1 (List.drop_eq_nil_iff.mp hd), w is H h1 .rfl' σ hr⟩
    · exact w.elim
  | cons x xs =>
    rw [hd] at w
    unfold loopS at w
    have hl : n < i.xs.length := by
      by_cases z : n < i.xs.length
      · exact z
      · rw [List.drop_eq_nil_of_le (by omega)] at hd
        cases hd
    have hx : i.xs[n]? = some x := by
      have := List.drop_eq_getElem_cons hl
      rw [this] at hd
      cases hd
      exact List.getElem?_eq_getElem hl
    have hxs : xs = i.xs.drop (n + 1) := by
      have := List.drop_eq_getElem_cons hl
      rw [this] at hd
      cases hd
      rfl
    subst hxs
    split at w
    · rename_i ok
      obtain ⟨go, step⟩ := (gv n S is H h1 f1 ok).2 x hx
      split at w
      · exact w.elim
      · rename_i r' eb
        refine .inr ⟨go, fun σ' H' => ∃ S is r, RS T S is H' ∧ Fr S0 is0 H0 S is H' ∧ RE T is H' r σ' ∧ (loopS g i.ok mb (i.xs.drop (n + 1)) r S).post (qS T S is H' D) (qX T E S is H'), fun σ' H' nx => ⟨_, by omega, rfl, nx⟩, fun v H' y => ?_⟩
        obtain ⟨h2, f2, hw⟩ := step v H' y
        rw [hK]
        refine gG_of g eb (hr.fr h1 f2) hw fun σ2 hr2 _ => ⟨S, is, r', h2, hr2, R.post_mono (R.post_bind w) (fun fl S3 q3 is3 H3 h3 f3 => ?_) fun _ _ _ z => z.fr f2⟩
        have ff : Fr S is H S3 is3 H3 := f2.trans f3
        cases fl with
        | nx r1 => exact fun s3 hr3 => ⟨S3, is3, r1, h3, f1.trans ff, hr3, R.post_mono q3 (fun _ _ z => z.fr ff) fun _ _ _ z => z.fr ff⟩
        | ct r1 => exact fun s3 hr3 => ⟨S3, is3, r1, h3, f1.trans ff, hr3, R.post_mono q3 (fun _ _ z => z.fr ff) fun _ _ _ z => z.fr ff⟩
        | bk r1 => exact fun s3 hr3 => q3 is3 H3 h3 ff s3 hr3
        | rt v => exact q3 is3 H3 h3 ff
    · exact w.elim
end Pe

set_option Elab.async false
set_option linter.all false
set_option maxRecDepth 100000
/-! List comprehensions. -/
namespace Pe
open PySem PySem.Spec PyProof.Rows L2
variable {T : Tb} {E : XK} {X : Cx} {S S1 S2 : Sto} {is is1 is2 : List Addr} {H H1 H2 : Hp} {s : L2.St} {P : Pg} {Fn : Fo}
/-- no exception is wanted -/
abbrev XF : XK := fun _ _ _ => False
theorem ts_nil : PTs X [] (tBl T E (evAll P Fn [])) := ⟨fun pins sh σ H Q I h => pts_nil.run pins sh σ H Q I (by
  obtain ⟨S, is, r, hS, hr, hp⟩ := h
  unfold evAll at hp
  exact hp is H hS .rfl')⟩
theorem ts_one {e : Expr} {c : C} (h : PT X e (tBl T E (mB (ev P Fn c)))) : PTs X [e] (tBl T E (evAll P Fn [c])) := ⟨fun pins sh σ H Q I q => (pts_one h).run pins sh σ H Q I (tBl_mono (bl_t (m := mB (ev P Fn c)) (k := fun b r S => if b = true then .ok true S else .ok false S) (tBl_congr q fun r S => rfl)) fun b H1 z => by
  cases b with
  | true => exact nowB z
  | false => exact nowB z)⟩
theorem nox_post {a : Type} {m : R a} {f : a → Sto → Prop} {g g' : Nat → List (Nat × Wv) → Sto → Prop} (h : m.nox.post f g) : m.post f g' := by
  cases m with
  | ok v S => exact h
  | exc c v S => exact h.elim
  | bad => exact h.elim
theorem nox_bind {a b : Type} {m : R a} {k : a → Sto → R b} {f : b → Sto → Prop} {g g' : Nat → List (Nat × Wv) → Sto → Prop} (h : (m.nox.bind k).post f g) : m.post (fun v S => (k v S).post f g) g' := nox_post (R.post_bind h)
abbrev mLc (mi : Ev → Sto → R Its) (g : Tg) (own : List Nat) (cond : Ev → Sto → R Bool) (me : Mw Wv) : Mw (List Wv) := fun r S => (mi r S).bind fun i S1 => if i.xs.length ≤ line then (loopC g (wipeE r own) i.ok cond me i.xs S1).nox else .bad
theorem lc_w {own : List (Str × Nat)} {g : Tg} {mi : Ev → Sto → R Its} {cond : Ev → Sto → R Bool} {me : Mw Wv} (hK : X.K = T.K) (hsl : ∀ i ∈ slotsG g, i ∈ own.map (·.2)) (s : L2.St) (H : Hp) (Q : VK) (h : tL T E (mLc mi g (own.map (·.2)) cond me) s H Q) :
    tLc (tI T E mi) (gG X.K g) (tBl T XF cond) (tW T XF me) (own.map (·.2)) s H Q := by
  obtain ⟨S, is, r, hS, hr, hq⟩ := h
  refine ⟨S, is, r, hS, hr, R.post_mono (R.post_bind hq) (fun i S0 q is0 H0 J h0 f0 gv D nD => ?_) fun _ _ _ z => z⟩
  split at q
  case isFalse => exact q.elim
  rename_i hlen
  have q : (loopC g (wipeE r (own.map (·.2))) i.ok cond me i.xs S0).post (qL T S is H Q) (fun _ _ _ => False) := nox_post q
  have nd : H D = none := f0.free nD
  have hr0 := hr.fr hS f0
  refine ⟨fun n m H' => m = i.xs.length - n ∧ ∃ S1 is1 aw av, RS T S1 is1 H' ∧ Fr S0 is0 H0 S1 is1 H' ∧ H' D = some (.lst av) ∧ ¬ Liv S1 is1 D ∧ RWs T is1 H' aw av ∧ aw.length ≤ n ∧
    (loopC g (wipeE r (own.map (·.2))) i.ok cond me (i.xs.drop n) S1).post (fun ys S' => qL T S is H Q (aw ++ ys) S') (fun _ _ _ => False), ⟨_, rfl, S0, is0, [], [], h0.new nD, .new h0 nD, upd_same, fun l => (Liv.ne h0 l nD) rfl, .nil, Nat.le_refl _, ?_⟩, ?_⟩
  · rw [List.drop_zero]
    exact R.post_mono q (fun _ _ z => z) fun _ _ _ z => z
  rintro n m H' ⟨rfl, S1, is1, aw, av, h1, f1, hD, nl, hav, hal, w⟩
  cases hd : i.xs.drop n with
  | nil =>
    rw [hd] at w
    unfold loopC at w
    split at w
    · rename_i gk
      refine .inl ⟨(gv n S1 is1 H' h1 f1 gk).1 (List.drop_eq_nil_iff.mp hd), ?_⟩
      have w' : qL T S is H Q (aw ++ []) S1 := w
      rw [List.append_nil] at w'
      exact w' is1 H' D av h1 (f0.trans f1) nl nd hD hav
    · exact w.elim
  | cons x xs =>
    rw [hd] at w
    unfold loopC at w
    have hl : n < i.xs.length := by
      by_cases z : n < i.xs.length
      · exact z
      · rw [List.drop_eq_nil_of_le (by omega)] at hd
        cases hd
    have hx : i.xs[n]? = some x := by
      have := List.drop_eq_getElem_cons hl
      rw [this] at hd
      cases hd
      exact List.getElem?_eq_getElem hl
    have hxs : xs = i.xs.drop (n + 1) := by
      have := List.drop_eq_getElem_cons hl
      rw [this] at hd
      cases hd
      rfl
    subst hxs
    split at w
    case isFalse => exact w.elim
    rename_i gk
    obtain ⟨go, step⟩ := (gv n S1 is1 H' h1 f1 gk).2 x hx
    split at w
    · exact w.elim
    rename_i r' eb
    have alen : av.length ≤ n := by rw [← hav.length]; exact hal
    refine .inr ⟨go, fun H2 => ∃ S1 is1 aw av, RS T S1 is1 H2 ∧ Fr S0 is0 H0 S1 is1 H2 ∧ H2 D = some (.lst av) ∧ ¬ Liv S1 is1 D ∧ RWs T is1 H2 aw av ∧ aw.length ≤ n + 1 ∧
      (loopC g (wipeE r (own.map (·.2))) i.ok cond me (i.xs.drop (n + 1)) S1).post (fun ys S' => qL T S is H Q (aw ++ ys) S') (fun _ _ _ => False), fun H2 nx => ⟨_, by omega, rfl, nx⟩, fun v H2 y => ?_⟩
    obtain ⟨h2, f2, hw⟩ := step v H2 y
    rw [hK]
    have hr1 : RE T is1 H2 (wipeE r (own.map (·.2))) (L2.wipe s (own.map (·.2))) := ((hr0.fr h0 f1).fr h1 f2).wipe _
    refine gG_of g eb hr1 hw fun σ2 hr2 kp => ⟨?_, ?_⟩
    · rw [kp _ hsl]
      refine List.ext_getElem? fun j => ?_
      rw [wipe_get, wipe_get, wipe_length]
      by_cases z : j ∈ own.map (·.2) ∧ j < s.length
      · rw [if_pos z, if_pos z]
      · rw [if_neg z, if_neg z]
    · refine ⟨S1, is1, r', h2, hr2, R.post_mono (R.post_bind w) (fun b S2 q2 is2 H3 h3 f3 => ?_) fun _ _ _ z => z.elim⟩
      obtain ⟨hD2, nl2⟩ := f2.keep D _ hD nl
      obtain ⟨hD3, nl3⟩ := f3.keep D _ hD2 nl2
      have hav3 : RWs T is2 H3 aw av := RWs.fr h2 f3 _ _ (RWs.fr h1 f2 _ _ hav)
      have fr3 : Fr S0 is0 H0 S2 is2 H3 := f1.trans (f2.trans f3)
      cases b with
      | false =>
        rw [if_neg Bool.false_ne_true] at q2 ⊢
        exact ⟨S2, is2, aw, av, h3, fr3, hD3, nl3, hav3, by omega, q2⟩
      | true =>
        rw [if_pos rfl] at q2 ⊢
        refine ⟨S2, is2, r', h3, hr2.fr h2 f3, R.post_mono (R.post_bind q2) (fun u S3 q3 is3 H4 v4 h4 f4 hu => ?_) fun _ _ _ z => z.elim⟩
        obtain ⟨hD4, nl4⟩ := f4.keep D _ hD3 nl3
        have hav4 : RWs T is3 H4 aw av := RWs.fr h3 f4 _ _ hav3
        have big : line = sizeLine := rfl
        refine ⟨av, hD4, by rw [← big]; omega, S3, is3, aw ++ [u], av ++ [v4], h4.out nl4 hD4 trivial, ?_, upd_same, nl4, ?_, by rw [List.length_append, List.length_singleton]; omega, ?_⟩
        · have fr4 := fr3.trans f4
          refine ⟨fr4.pre, fun a o e n => ?_, fun a o e => ?_⟩
          · obtain ⟨k1, k2⟩ := fr4.keep a o e n
            exact ⟨by rw [upd_ne (fun z => by subst z; rw [nD] at e; cases e)]; exact k1, k2⟩
          · obtain ⟨o', e'⟩ := fr4.there a o e
            exact upd_there a o' e'
        · exact (RWs.keep (keep_of_mut h4 hD4 trivial) aw av hav4).append (.cons (RW.keep (keep_of_mut h4 hD4 trivial) u v4 hu) .nil)
        · refine R.post_mono (R.post_bind q3) (fun ys S5 q5 => ?_) fun _ _ _ z => z
          have q5' : qL T S is H Q (aw ++ (u :: ys)) S5 := q5
          rw [List.append_assoc]
          exact q5'
theorem e_lc {elt tg it : Expr} {ifs : List Expr} {scope : Scope} {own : List (Str × Nat)} {pos : Pos} {g : Tg} {mi : Ev → Sto → R Its} {cond : Ev → Sto → R Bool} {me : Mw Wv} (hK : X.K = T.K) (hc : X.calm = true) (hN : X.N.Nodup) (hi : PI X tg it (tI T E mi)) (ok : BlkOk X.N X.env.scope scope own)
    (hg : ∀ (s : Shared) (H : Hp) (C : Addr) (cl : List (Str × Addr)) (fp : List Addr), PG (X.blk s H scope (compEnvC scope cl C X.env) fp) tg (gG X.K g))
    (ht : ∀ (s : Shared) (H : Hp) (C : Addr) (cl : List (Str × Addr)) (fp : List Addr), PTs (X.blk s H scope (compEnvC scope cl C X.env) fp) ifs (tBl T XF cond))
    (he : ∀ (s : Shared) (H : Hp) (C : Addr) (cl : List (Str × Addr)) (fp : List Addr), PE (X.blk s H scope (compEnvC scope cl C X.env) fp) elt (tW T XF me))
    (hs : ∀ x, foldedSetIterable it X.env x = pure x) (hsl : ∀ i ∈ slotsG g, i ∈ own.map (·.2)) :
    PE X (.ListComp elt [⟨tg, it, ifs, 0⟩] scope pos) (tL T E (mLc mi g (own.map (·.2)) cond me)) := (pe_lc hc hN hi ok hg ht he hs).weak (lc_w hK hsl)
/-- name = [..] on one line -/
theorem s_setLc {i : Nat} {y : Str} {py : Pos} {elt tg it : Expr} {ifs : List Expr} {scope : Scope} {own : List (Str × Nat)} {pos spos : Pos} {g : Tg} {bx : Bool} {mi : Ev → Sto → R Its} {cond : Ev → Sto → R Bool} {me : Mw Wv} (hK : X.K = T.K) (hc : X.calm = true) (hN : X.N.Nodup) (hy : X.N[i]? = some y) (hyl : X.env.scope.names.lookup y = some .local)
    (hsw : swapsWith (.ListComp elt [⟨tg, it, ifs, 0⟩] scope pos) (some (.Name y py)) spos.line X.env = pure true) (hi : PI X tg it (tI T E mi)) (ok : BlkOk X.N X.env.scope scope own)
    (hg : ∀ (s : Shared) (H : Hp) (C : Addr) (cl : List (Str × Addr)) (fp : List Addr), PG (X.blk s H scope (compEnvC scope cl C X.env) fp) tg (gG X.K g))
    (ht : ∀ (s : Shared) (H : Hp) (C : Addr) (cl : List (Str × Addr)) (fp : List Addr), PTs (X.blk s H scope (compEnvC scope cl C X.env) fp) ifs (tBl T XF cond))
    (he : ∀ (s : Shared) (H : Hp) (C : Addr) (cl : List (Str × Addr)) (fp : List Addr), PE (X.blk s H scope (compEnvC scope cl C X.env) fp) elt (tW T XF me))
    (hs : ∀ x, foldedSetIterable it X.env x = pure x) (hsl : ∀ i ∈ slotsG g, i ∈ own.map (·.2)) :
    PS X (.Assign [.Name y py] (.ListComp elt [⟨tg, it, ifs, 0⟩] scope pos) spos) (tSt T E fun r S => (mLc mi g (own.map (·.2)) cond me r S).bind fun xs S1 => (newL bx xs S1).bind fun w S2 => if i < r.length then .ok (.nx (r.set i w)) S2 else .bad) := by
  refine ⟨fun pins sh σ H D I ⟨S, is, r, hS, hr, hp⟩ => ?_⟩
  refine thn ((ps_setLc (py := py) (pos := pos) (spos := spos) hc hN hy hyl hsw hi ok hg ht he hs).run pins sh σ H { nx := fun σ' H' => ∃ S' is' p ys xs, RS T S' is' H' ∧ Fr S is H S' is' H' ∧ H p = none ∧ H' p = some (.lst ys) ∧ ¬ Liv S' is' p ∧ RWs T is' H' xs ys ∧ σ' = σ.set i (some (.ref p)) ∧ ((newL bx xs S').bind fun w S2 => if i < r.length then R.ok (Fl.nx (r.set i w)) S2 else .bad).post (qS T S is H D) (qX T E S is H), rt := fun _ _ => False, bk := fun _ _ => False, ct := fun _ _ => False } I
    (lc_w hK hsl σ H _ ⟨S, is, r, hS, hr, R.post_mono (R.post_bind hp) (fun xs S1 q is1 H1 p v h1 f nl np hp1 hv => ⟨S1, is1, p, v, xs, h1, f, np, hp1, nl, hv, rfl, q⟩) fun _ _ _ z => z⟩)) fun f s' hz => ?_
  cases f with
  | next =>
    obtain ⟨σ', H', I', S', is', p, ys, xs, h1, f, np, hp1, nl, hv, rfl, q⟩ := hz
    unfold newL at q
    split at q
    · split at q
      · obtain ⟨g1, g2, g3⟩ := adopt_ok h1 f np hp1 nl hv
        rw [R.bind_ok] at q
        split at q
        · exact ⟨_, H', I', q _ _ g1 g2 _ ((hr.fr hS g2).set g3)⟩
        · exact q.elim
      · obtain ⟨od, I2⟩ := I'.lock hp1 trivial
        obtain ⟨g1, g2, g3⟩ := frz_ok (od := od) h1 f np hp1 nl hv
        rw [R.bind_ok] at q
        split at q
        · exact ⟨_, _, I2, q _ _ g1 g2 _ ((hr.fr hS g2).set g3)⟩
        · exact q.elim
    · exact q.elim
  | ret v => obtain ⟨_, _, _, _, _, q⟩ := hz; exact q.elim
  | brk => obtain ⟨_, _, _, q⟩ := hz; exact q.elim
  | cont => obtain ⟨_, _, _, q⟩ := hz; exact q.elim
end Pe

set_option Elab.async false
set_option linter.all false
set_option maxRecDepth 100000
/-! Calls: what a def of the program promises, by its evaluator. -/
namespace Pe
open PySem PySem.Spec PyProof.Rows L2
variable {T : Tb} {E : XK} {X : Cx} {S S1 S2 : Sto} {is is1 is2 : List Addr} {H H1 H2 : Hp} {s : L2.St} {P : Pg} {Fn : Fo}

/-! ### what a call leaves -/
mutual
theorem under_rw {n : Nat} : ∀ (w : Wv) (v : V), under n w = true → RW T is H w v → RW T (is.take n) H w v
  | .unb, _, _, h => h
  | .non, _, _, h => h
  | .bl _, _, _, h => h
  | .int _, _, _, h => h
  | .str _, _, _, h => h
  | .cls _, _, _, h => h
  | .tup xs, _, u, h => by
    unfold RW at h ⊢
    obtain ⟨a, ys, e, h1, h2⟩ := h
    exact ⟨a, ys, e, h1, under_rws xs ys u h2⟩
  | .lst xs, _, u, h => by
    unfold RW at h ⊢
    obtain ⟨a, ys, e, h1, h2⟩ := h
    exact ⟨a, ys, e, h1, under_rws xs ys u h2⟩
  | .scr xs, _, u, h => by
    unfold RW at h ⊢
    obtain ⟨a, ys, e, h1, h2⟩ := h
    exact ⟨a, ys, e, h1, under_rws xs ys u h2⟩
  | .ref l, _, u, h => by
    unfold RW at h ⊢
    obtain ⟨a, e, h1⟩ := h
    refine ⟨a, e, ?_⟩
    have hl : l < n := by simpa [under] using u
    rw [List.getElem?_take_of_lt hl]
    exact h1
theorem under_rws {n : Nat} : ∀ (ws : List Wv) (vs : List V), unders n ws = true → RWs T is H ws vs → RWs T (is.take n) H ws vs
  | [], _, _, h => h
  | x :: xs, _, u, h => by
    unfold RWs at h ⊢
    obtain ⟨y, r, e, h1, h2⟩ := h
    have u' : under n x = true ∧ unders n xs = true := by simpa [unders] using u
    exact ⟨y, r, e, under_rw x y u'.1 h1, under_rws xs r u'.2 h2⟩
end
theorem under_rks {n : Nat} : ∀ (ws : List (Key × Wv)) (vs : List (Key × V)), (ws.all fun p => under n p.2) = true → RKs T is H ws vs → RKs T (is.take n) H ws vs
  | [], _, _, h => h
  | x :: xs, _, u, h => by
    unfold RKs at h ⊢
    obtain ⟨y, r, e, h1, h2⟩ := h
    rw [List.all_cons, Bool.and_eq_true] at u
    exact ⟨y, r, e, under_rw x.2 y u.1 h1, under_rks xs r u.2 h2⟩
theorem under_rfs {n : Nat} : ∀ (ws : List (Nat × Wv)) (vs : List (Str × V)), (ws.all fun p => under n p.2) = true → RFs T is H ws vs → RFs T (is.take n) H ws vs
  | [], _, _, h => h
  | x :: xs, _, u, h => by
    unfold RFs at h ⊢
    obtain ⟨y, r, e, h1, h2⟩ := h
    rw [List.all_cons, Bool.and_eq_true] at u
    exact ⟨y, r, e, under_rw x.2 y u.1 h1, under_rfs xs r u.2 h2⟩
theorem under_ro {n : Nat} {a : Addr} {ob : Ob} (u : ob.under n = true) (h : RO T is H a ob) : RO T (is.take n) H a ob := by
  cases ob with
  | lst xs => obtain ⟨ys, e, q⟩ := h; exact ⟨ys, e, under_rws xs ys u q⟩
  | dic kvs => obtain ⟨ys, e, q⟩ := h; exact ⟨ys, e, under_rks kvs ys u q⟩
  | ins c fs => obtain ⟨dx, ys, e, q⟩ := h; exact ⟨dx, ys, e, under_rfs fs ys u q⟩
  | dead => trivial
theorem liv_take {n : Nat} {a : Addr} (h : Liv (S.take n) (is.take n) a) : Liv S is a := by
  obtain ⟨l, ob, h1, h2, h3⟩ := h
  have hl : l < n := by
    have := (List.getElem?_eq_some_iff.mp h2).1
    rw [List.length_take] at this
    omega
  rw [List.getElem?_take_of_lt hl] at h1 h2
  exact ⟨l, ob, h1, h2, h3⟩
theorem take_rs {n : Nat} (h : RS T S is H) (u : (S.take n).all (Ob.under n) = true) : RS T (S.take n) (is.take n) H := by
  have lt : ∀ {l : Nat} {ob : Ob}, (S.take n)[l]? = some ob → l < n ∧ S[l]? = some ob := fun {l ob} e => by
    have hl : l < n := by
      have := (List.getElem?_eq_some_iff.mp e).1
      rw [List.length_take] at this
      omega
    rw [List.getElem?_take_of_lt hl] at e
    exact ⟨hl, e⟩
  refine ⟨by rw [List.length_take, List.length_take, h.len], fun l l' a ob ob' h1 h2 h3 h4 h5 h6 => ?_, fun l ob a h1 h2 => ?_⟩
  · obtain ⟨k1, k3⟩ := lt h3
    obtain ⟨k2, k4⟩ := lt h4
    rw [List.getElem?_take_of_lt k1] at h1
    rw [List.getElem?_take_of_lt k2] at h2
    exact h.inj l l' a ob ob' h1 h2 k3 k4 h5 h6
  · obtain ⟨k1, k3⟩ := lt h1
    have h2' := h2
    rw [List.getElem?_take_of_lt k1] at h2'
    exact under_ro ((List.all_eq_true.mp u) ob (List.mem_of_getElem? h1)) (h.ob l ob a k3 h2')
theorem sweep_ok {S0 : Sto} {is0 : List Addr} {H0 : Hp} {w : Wv} {v : V} (l0 : is0.length = S0.length) (h : RS T S is H) (f : Fr S0 is0 H0 S is H) (hw : RW T is H w v) : ∃ is', RS T (sweep S0.length w S) is' H ∧ Fr S0 is0 H0 (sweep S0.length w S) is' H ∧ RW T is' H w v := by
  unfold sweep
  split
  · rename_i u
    refine ⟨is.take S0.length, take_rs h u.2, ⟨⟨[], ?_⟩, fun a o e n => ?_, f.there⟩, under_rw w v u.1 hw⟩
    · obtain ⟨t, e⟩ := f.pre
      rw [e, ← l0, List.take_left, List.append_nil]
    · obtain ⟨h1, h2⟩ := f.keep a o e n
      exact ⟨h1, fun l => h2 (liv_take l)⟩
  · exact ⟨is, h, f, hw⟩

/-! ### what a def promises -/
/-- a def of the program's text -/
structure Dd where
  f : Addr
  fd : FuncData
  x : Str
  qual : Str
  st : Stmt
  N : List Str
  ps : List Str
/-- how its arguments bind -/
def BindOk (K : PySem.W.Frag) (d : Dd) : Bool → Prop
  | false => Binds K d.fd d.ps []
  | true => ∃ ps pd, d.ps = ps ++ [pd] ∧ ∀ us : List Value, us.length = ps.length → bindArgs d.fd ⟨us, []⟩ = ((alloc ({ cls := .type "dict", data := .dict #[] } : Obj) : Sem Addr) >>= fun p => pure (ps.zip us ++ [(pd, Value.ref p)]))
structure DdOk (K : PySem.W.Frag) (P : Pg) (i : Nat) (d : Dd) (e : Fd) : Prop where
  fn : P.fn i = some e
  fu : Fun K d.x d.qual d.st d.f d.fd
  sc : FnScope d.N d.ps (defScope d.st)
  ns : d.N.length = e.ns
  np : d.ps.length = e.np + (if e.kw = true then 1 else 0)
  bd : BindOk K d e.kw
/-- a body at its entry -/
def Gb (T : Tb) (P : Pg) (k i : Nat) (Q : VK) (E : XK) (vs : List V) (H2 : Hp) : Prop :=
  ∃ S0 is0 H0 S is ws, is0.length = S0.length ∧ RS T S is H2 ∧ Fr S0 is0 H0 S is H2 ∧ RWs T is H2 ws vs ∧ (bodyN P k i S0.length ws S).post (qW T S0 is0 H0 Q) (qX T E S0 is0 H0)
def Runs (T : Tb) (P : Pg) (Pr : Program) (w : World) (K : PySem.W.Frag) (mg : Str → Option Value) (base : Heap) (CX : CXT) (k i : Nat) (d : Dd) : Prop :=
  ∀ (A : Around) (outer : List Env) (s : Shared) (H : Hp) (args : Args) (Q : VK) (E : XK), Room (2 * k + 1) A → A.guards = some [] → Env0 Pr w K mg base A outer s H → StX.Bnd CX Pr w K mg base d.fd args d.ps A outer s H E (Gb T P k i Q E) →
    codeAny (model Pr w) A (.call (.ref d.f) args) (CR CX outer Pr w H s Q E) s
theorem start_re {N : List Str} {ws : List Wv} {vs : List V} {n : Nat} (hN : N.length = n) (hl : ws.length ≤ n) (h : RWs T is H ws vs) : RE T is H (ws ++ List.replicate (n - ws.length) .unb) (start N vs) := by
  have l := h.length
  refine ⟨?_, fun i w e nu => ?_⟩
  · unfold L2.start
    rw [List.length_append, List.length_append, List.length_replicate, List.length_map, List.length_replicate, l, hN]
  · unfold L2.start
    by_cases hi : i < ws.length
    · rw [List.getElem?_append_left hi] at e
      obtain ⟨y, h1, h2⟩ := h.get e
      refine ⟨y, ?_, h2⟩
      rw [List.getElem?_append_left (by rw [List.length_map, ← l]; exact hi), List.getElem?_map, h1]
      rfl
    · rw [List.getElem?_append_right (by omega), List.getElem?_replicate] at e
      split at e
      · cases e
        exact absurd rfl nu
      · cases e
/-- from the body to the promise -/
theorem runs_of {Pr : Program} {w : World} {K : PySem.W.Frag} {mg : Str → Option Value} {base : Heap} {CX : CXT} {k i : Nat} {d : Dd} {e : Fd} (ok : DdOk K P i d e)
    (hb : ∀ (cdv : Value) (A : Around) (outer : List Env) (s : Shared) (H : Hp) (E : XK), Room (2 * k + 2) (A.deeper (envOfC d.qual (defScope d.st) s.heap.objs.size d.f cdv)) → A.guards = some [] →
      PSs (cxOf CX Pr w K mg base d.N d.qual (defScope d.st) d.f cdv A outer s H E) (defBody d.st) (tSt T E (exB P (callN P k) e.body))) : Runs T P Pr w K mg base CX (k + 1) i d := by
  intro A outer s H args Q E hr hg e0 hB
  obtain ⟨oc, od, kV, doc, pm, an, cdv, ct, osl, efd, lk, hcd⟩ := ok.fu.ex
  have hr' : Room (2 * k + 2 + 1) A := by
    have : 2 * (k + 1) + 1 = 2 * k + 2 + 1 := by omega
    rw [this] at hr
    exact hr
  rw [efd] at lk hB
  refine StX.run_bnd lk hcd ok.sc hr' e0 hB fun s2 H2 vs ⟨S0, is0, H0, S, is, ws, l0, hS, f, hw, hp⟩ hr2 => ⟨_, hb cdv A outer s2 H2 E hr2 hg, ?_⟩
  rw [bodyN_succ, ok.fn] at hp
  dsimp only at hp
  split at hp
  · rename_i hl
    refine ⟨S, is, _, hS, start_re ok.ns hl hw, R.post_mono (R.post_bind hp) (fun fl S1 q is1 H1 h1 f1 => ?_) fun c fs S1 z is1 H1 dd ys h1 f1 => z is1 H1 dd ys h1 (f.trans f1)⟩
    have ff := f.trans f1
    cases fl with
    | nx r =>
      obtain ⟨is', g1, g2, g3⟩ := sweep_ok (w := .non) (v := .non) l0 h1 ff rw_non
      exact fun s' _ => q is' H1 .non g1 g2 g3
    | rt v =>
      intro y hy
      obtain ⟨is', g1, g2, g3⟩ := sweep_ok l0 h1 ff hy
      exact q is' H1 y g1 g2 g3
    | bk r => exact q.elim
    | ct r => exact q.elim
  · exact hp.elim
/-- no level, no promise to keep -/
theorem runs_zero {Pr : Program} {w : World} {K : PySem.W.Frag} {mg : Str → Option Value} {base : Heap} {CX : CXT} {i : Nat} {d : Dd} {e : Fd} (ok : DdOk K P i d e) : Runs T P Pr w K mg base CX 0 i d := by
  intro A outer s H args Q E hr hg e0 hB
  obtain ⟨oc, od, kV, doc, pm, an, cdv, ct, osl, efd, lk, hcd⟩ := ok.fu.ex
  rw [efd] at lk hB
  refine StX.run_bnd (k := 0) lk hcd ok.sc hr e0 hB fun s2 H2 vs ⟨S0, is0, H0, S, is, ws, l0, hS, f, hw, hp⟩ _ => ?_
  exact False.elim hp
end Pe

set_option Elab.async false
set_option linter.all false
set_option maxRecDepth 100000
/-! The calls themselves. -/
namespace Pe
open PySem PySem.Spec PyProof.Rows L2
variable {T : Tb} {E : XK} {X : Cx} {S S1 S2 : Sto} {is is1 is2 : List Addr} {H H1 H2 : Hp} {s : L2.St} {P : Pg} {Fn : Fo} {CX : CXT} {k i : Nat} {d : Dd} {e : Fd}

/-- how a call ends, in the caller's context -/
abbrev CEnd (X : Cx) (pins : List (Addr × Obj)) (σ : L2.St) (Q : VK) : Result → Shared → Prop := fun r s' => match r with
  | .ok (.ret v) => EP X pins σ Q v s'
  | .ok _ => False
  | .error e => X.xe e s'
theorem cr_end {pins : List (Addr × Obj)} {σ : L2.St} {sh : Shared} {Q : VK} (I : Inv X pins σ H sh) (hx : Passes CX X E) : ∀ r s', CR CX X.stack X.prog X.w H sh Q E r s' → CEnd X pins σ Q r s' := fun r s' h => by
  cases r with
  | error e => exact hx pins σ H sh e s' I h
  | ok fl =>
    cases fl with
    | ret u => exact I.after h
    | next => exact False.elim h
    | brk => exact False.elim h
    | cont => exact False.elim h
/-- the arguments are there: the promise, in a state of its own -/
theorem runs_at {Pr : Program} {w : World} {K : PySem.W.Frag} {mg : Str → Option Value} {base : Heap} {A : Around} {outer : List Env} {sh : Shared} {Q : VK} {us : List Value} {vs : List V} (R : Runs T P Pr w K mg base CX k i d) (ok : DdOk K P i d e) (up : StX.CXUp CX) (hr : Room (2 * k + 1) A) (hg : A.guards = some []) (e0 : Env0 Pr w K mg base A outer sh H)
    (r : Vals vs us) (h : ∃ S is ws, RS T S is H ∧ RWs T is H ws vs ∧ (callN P k i ws S).post (qW T S is H Q) (qX T E S is H)) : codeAny (model Pr w) A (.call (.ref d.f) ⟨us, []⟩) (CR CX outer Pr w H sh Q E) sh := by
  obtain ⟨S, is, ws, hS, hw, hp⟩ := h
  refine R A outer sh H ⟨us, []⟩ Q E hr hg e0 ?_
  unfold callN at hp
  rw [ok.fn] at hp
  dsimp only at hp
  split at hp
  case isFalse => exact hp.elim
  rename_i hl
  have b := ok.bd
  have np := ok.np
  have l1 := hw.length
  have l2 := r.length
  cases hk : e.kw with
  | false =>
    rw [hk] at b hp np
    rw [if_neg Bool.false_ne_true] at hp
    have hlen : (us ++ []).length = d.ps.length := by
      rw [List.append_nil, np]
      simp
      omega
    have KX : K.In sh.heap := e0.mod.kin.keeps fun b o q => (e0.bs b o q).1
    have b' := b sh us KX hlen
    rw [List.append_nil] at b' hlen
    exact fun A' Ex Q' hq => b' _ _ _ _ (hq sh H vs us e0 .refl rfl (fun _ _ z => z) r (by rw [r.length]; exact hlen) ⟨S, is, H, S, is, ws, hS.len, hS, .rfl', hw, hp⟩)
  | true =>
    rw [hk] at b hp np
    rw [if_pos rfl] at hp
    obtain ⟨ps, pd, eps, hb⟩ := b
    have lps : us.length = ps.length := by
      rw [eps, List.length_append, List.length_singleton] at np
      simp at np
      omega
    have hn : H sh.heap.objs.size = none := e0.hok.fresh (Nat.le_refl _)
    intro A' Ex Q' hq
    rw [hb us lps]
    refine wpAny_bind (wpAny_alloc (wpAny_pure ?_))
    have e1 := StX.env0_laid (u := .dK []) (o := ({ cls := .type "dict", data := .dict #[] } : Obj)) e0 (dk_empty _ (StX.env0_big e0))
    have un := StX.un_laid (fs := frs outer) (s := sh) (o := ({ cls := .type "dict", data := .dict #[] } : Obj)) (u := .dK []) hn
    obtain ⟨h1, f1⟩ := hS.push (o := .dK []) (ob := .dic []) hn ⟨[], upd_same, by unfold RKs; rfl⟩
    have z := hq _ _ (vs ++ [V.ref sh.heap.objs.size]) (us ++ [Value.ref sh.heap.objs.size]) e1 un rfl (fun e s' => up outer sh H _ _ E e s' un (fun b o q => Heap.get?_push_of_some _ q) rfl) (r.append (.cons rfl .nil))
      (by rw [List.length_append, eps, List.length_append, r.length, lps]; rfl)
      ⟨S, is, H, S ++ [.dic []], is ++ [sh.heap.objs.size], ws ++ [.ref S.length], hS.len, h1, f1, (RWs.fr hS f1 _ _ hw).append (.cons (by
        unfold RW
        exact ⟨_, rfl, by rw [← hS.len]; simp⟩) .nil), hp⟩
    rw [eps, List.zip_append lps.symm] at z
    exact z
/-- what a body may call -/
structure Wk (T : Tb) (P : Pg) (TD : Nat → Option Dd) (CX : CXT) (co : List Str) (X : Cx) (E : XK) (k : Nat) : Prop where
  hK : X.K = T.K
  calm : X.calm = true
  grd : X.A.guards = some []
  room : Room (2 * k + 2) X.A
  nd : X.N.Nodup
  cel : ∀ x ∈ co, X.fn x = true
  own : PassesOwn (model X.prog X.w) X.A X.env X.xe
  pass : Passes CX X E
  none : ∀ (outer : List Env) (H : Hp) (s : Shared) (e : Value) (s' : Shared), ¬ CX outer H s XF e s'
  up : StX.CXUp CX
  tb : TbOk T P
  defs : ∀ i d, TD i = some d → ∃ e, DdOk X.K P i d e
  runs : ∀ i d, TD i = some d → Runs T P X.prog X.w X.K X.mg X.base CX k i d
variable {TD : Nat → Option Dd} {co : List Str}
/-- the cells that a scope makes itself -/
def cellsOf (sc : Scope) : List Str := (sc.names.map (·.1)).filter fun x => sc.names.lookup x == some .cell
theorem Wk.room0 (W : Wk T P TD CX co X E k) : Room (2 * k + 1) X.A := W.room.mono (by omega)
theorem Wk.unit (W : Wk T P TD CX co X E k) : X.A.units + 200 < cLine := by have := W.room.un; omega
theorem Wk.blk (W : Wk T P TD CX co X E k) (sh : Shared) (H : Hp) (scope : Scope) (cl : List (Str × Addr)) (C : Addr) (fp : List Addr) : Wk T P TD CX (cellsOf scope) (X.blk sh H scope (compEnvC scope cl C X.env) fp) XF k where
  hK := W.hK
  calm := W.calm
  grd := W.grd
  room := W.room
  nd := W.nd
  cel := fun x h => (List.mem_filter.mp h).2
  own := PassesOwn.never
  pass := fun pins σ H s e s' I h => W.none _ _ _ _ _ h
  none := W.none
  up := W.up
  tb := W.tb
  defs := W.defs
  runs := W.runs
theorem run_call (W : Wk T P TD CX co X E k) {pins : List (Addr × Obj)} {σ : L2.St} {sh : Shared} {Q : VK} {us : List Value} {vs : List V} (hd : TD i = some d) (I : Inv X pins σ H sh) (r : Vals vs us)
    (h : ∃ S is ws, RS T S is H ∧ RWs T is H ws vs ∧ (callN P k i ws S).post (qW T S is H Q) (qX T E S is H)) : codeAny (model X.prog X.w) X.A (.call (.ref d.f) ⟨us, []⟩) (CEnd X pins σ Q) sh := by
  obtain ⟨e, ok⟩ := W.defs i d hd
  exact codeAny_mono (runs_at (W.runs i d hd) ok W.up W.room0 W.grd I.env0 r h) (cr_end I W.pass)
theorem call_end {pins : List (Addr × Obj)} {σ : L2.St} {sh : Shared} {Q : VK} {f : Value} {us : List Value} {kw : List (Str × Value)} (h : codeAny (model X.prog X.w) X.A (.call f ⟨us, kw⟩) (CEnd X pins σ Q) sh) : wpAny (model X.prog X.w) X.A (call f us kw) (EP X pins σ Q) X.xe sh := by
  refine wpAny_call (codeAny_mono h fun r s' hq => ?_)
  cases r with
  | error e => exact hq
  | ok fl => cases fl with
    | ret u => exact hq
    | _ => exact False.elim hq
/-- f(e, ..) -/
theorem e_fn (W : Wk T P TD CX co X E k) {x : Str} {p pos : Pos} {es : List Expr} {ms : Mw (List Wv)} (hd : TD i = some d) (hg : Gl X x) (hm : X.mg x = some (.ref d.f)) (ha : PA X es (tWs T E ms)) (hdb : (x == ("__debug__" : Str)) = false) (hst : es.all notStar = true) (hn : es ≠ []) :
    PE X (.Call (.Name x p) es [] pos) (tW T E fun r S => (ms r S).bind fun xs S1 => callN P k i xs S1) := by
  obtain ⟨e, ok⟩ := W.defs i d hd
  refine ⟨fun pins sh σ H Q I h => ?_⟩
  refine wpAny_Call_Name_kw (ld_glob I hg hm ?_ hdb)
  cases es with
  | nil => exact absurd rfl hn
  | cons a as =>
    rw [List.all_cons, Bool.and_eq_true] at hst
    refine PySem.W.callWith_K (h₀ := X.base) I.ok.mod.kin ok.fu.kp (thn (ha.run pos pins sh σ H _ I (tWs_seq (k := fun _ xs S1 => callN P k i xs S1) h)) fun us s1 ⟨vs, H1, I1, r, S, is, _, ws, hS, _, hw, hp⟩ => ⟨I1.kIn, ?_⟩) (star_ok hst.1) (back_plain hst.2)
    exact call_end (run_call W hd I1 r ⟨S, is, ws, hS, hw, hp⟩)
theorem e_fn0 (W : Wk T P TD CX co X E k) {x : Str} {p pos : Pos} {Fo' : Fo} (hd : TD i = some d) (hg : Gl X x) (hm : X.mg x = some (.ref d.f)) (hdb : (x == ("__debug__" : Str)) = false) :
    PE X (.Call (.Name x p) [] [] pos) (tW T E fun r S => (evs P Fo' [] r S).bind fun xs S1 => callN P k i xs S1) := by
  obtain ⟨e, ok⟩ := W.defs i d hd
  refine ⟨fun pins sh σ H Q I ⟨S, is, r, hS, hr, hp⟩ => ?_⟩
  unfold evs at hp
  refine wpAny_Call_Name_kw (ld_glob I hg hm ?_ hdb)
  exact PySem.W.callWith_K0 I.kIn ok.fu.kp (call_end (us := []) (run_call W hd I .nil ⟨S, is, [], hS, .nil, hp⟩))
/-- o.m(e, ..) -/
structure MtOk (T : Tb) (P : Pg) (TD : Nat → Option Dd) : Prop where
  mt : ∀ c m i, P.meth c m = some i → ∃ d, TD i = some d ∧ ((Cls T.K (T.ca c) ∧ Meth T.K (T.ca c) (T.an m) d.f) ∨ False)
theorem meth_at {w : Wv} {x : V} {m : Nat} (tb : TbOk T P) (hS : RS T S is H) (hw : RW T is H w x) (e : methOf P S w m = some i) : ∃ a c dx ys, x = .ref a ∧ H a = some (.ins (T.ca c) dx ys) ∧ ys.lookup (T.an m) = none ∧ P.meth c m = some i := by
  cases w with
  | ref l =>
    unfold RW at hw
    obtain ⟨a, rfl, ha⟩ := hw
    unfold methOf at e
    dsimp only at e
    split at e
    · rename_i c fs el
      obtain ⟨dx, ys, e3, r⟩ := hS.ob l _ a el ha
      split at e
      · cases e
      · rename_i en
        exact ⟨a, c, dx, ys, rfl, e3, (look_f tb.inj m r).2 en, e⟩
    · cases e
  | _ => cases e
theorem meth_ht {o : Expr} {m : Str} {apos pos : Pos} {es : List Expr} {env : Env} (hb : baseOk o = true) (hst : es.all notStar = true) (hl : es.length < 29) (hli : (apos.endLine == pos.line) = true) : ∃ pl, eval (.Call (.Attribute o m apos) es [] pos) env = (do
      let ov ← eval o env
      standAt apos.atName
      let (f, first) ← holding [ov] (getMethod ov m pl)
      callWith pos f first (backTo pos (starEach es env)) (backToKw pos (keywordEach [] env))) := by
  have e : eval (.Call (.Attribute o m apos) es [] pos) env = (do
      let ov ← attributeBase o m env (eval o env)
      standAt apos.atName
      methodCall o m apos pos env ov (es.length + ([] : List Keyword).length) (backTo pos (starEach es env)) (backToKw pos (keywordEach [] env))) := rfl
  have hf : methodCallForm (es.length + ([] : List Keyword).length) (backTo pos (starEach es env)) (backToKw pos (keywordEach [] env)) = true := few_ok hst hl
  refine ⟨do return (← importBound o env).getD true, ?_⟩
  rw [e, base_ok hb]
  unfold methodCall calleeOf methodCallPos
  rw [hf, hli]
  simp only [if_true, Bool.not_true, Bool.false_or, pure_bind]
theorem e_mth (W : Wk T P TD CX co X E k) (M : MtOk T P TD) {m : Nat} {o : Expr} {es : List Expr} {apos pos : Pos} {mo : Mw Wv} {ms : Mw (List Wv)} (ho : PE X o (tW T E mo)) (ha : PA X es (tWs T E ms)) (hb : baseOk o = true) (hst : es.all notStar = true) (hl : es.length < 29) (hli : (apos.endLine == pos.line) = true) (hn : es ≠ []) :
    PE X (.Call (.Attribute o (T.an m) apos) es [] pos) (tW T E fun r S => (mo r S).bind fun x S1 => match methOf P S1 x m with
      | some f => (ms r S1).bind fun xs S2 => callN P k f (x :: xs) S2
      | none => .bad) := by
  obtain ⟨pl, ht⟩ := meth_ht (m := T.an m) (env := X.env) hb hst hl hli
  refine ⟨fun pins sh σ H Q I h => ?_⟩
  refine PySem.W.methodCall_KW (pl := pl) (thn (ho.run pins sh σ H _ I (tW_seq (k := fun r x S1 => match methOf P S1 x m with
      | some f => (ms r S1).bind fun xs S2 => callN P k f (x :: xs) S2
      | none => .bad) h)) fun u s1 ⟨x, H1, I1, rx, S, is, r, w, hS, hr, hw, hp⟩ => ?_) ht
  dsimp only at hp
  split at hp
  case h_2 => exact hp.elim
  rename_i f ef
  obtain ⟨a, c, dx, ys, rfl, e3, ln, ec⟩ := meth_at W.tb hS hw ef
  obtain rfl : u = Value.ref a := rx
  obtain ⟨d, hd, hm⟩ := M.mt c m f ec
  obtain ⟨hc, hm⟩ : Cls T.K (T.ca c) ∧ Meth T.K (T.ca c) (T.an m) d.f := hm.resolve_right id
  refine getmeth_ok I1 e3 (W.hK ▸ hc) (W.hK ▸ hm) ln ?_
  cases es with
  | nil => exact absurd rfl hn
  | cons b bs =>
    rw [List.all_cons, Bool.and_eq_true] at hst
    refine PySem.W.callWith_K (first := [.ref a]) (h₀ := X.base) I.ok.mod.kin (W.hK ▸ hm.kp) (thn (ha.run pos pins s1 σ H1 _ I1 (kW_seqs (T := T) (E := E) (k := fun _ x xs S2 => callN P k f (x :: xs) S2) ⟨S, is, r, w, hS, hr, hw, hp⟩)) fun us s2 ⟨vs, H2, I2, rv, S2, is2, _, w2, ws, hS2, _, hw2, hws, hp2⟩ => ⟨I2.kIn, ?_⟩) (star_ok hst.1) (back_plain hst.2)
    exact call_end (run_call W hd I2 (.cons (show RelV (V.ref a) (Value.ref a) from rfl) rv) ⟨S2, is2, w2 :: ws, hS2, .cons hw2 hws, hp2⟩)
theorem e_mth0 (W : Wk T P TD CX co X E k) (M : MtOk T P TD) {m : Nat} {o : Expr} {apos pos : Pos} {mo : Mw Wv} {Fo' : Fo} (ho : PE X o (tW T E mo)) (hb : baseOk o = true) (hli : (apos.endLine == pos.line) = true) :
    PE X (.Call (.Attribute o (T.an m) apos) [] [] pos) (tW T E fun r S => (mo r S).bind fun x S1 => match methOf P S1 x m with
      | some f => (evs P Fo' [] r S1).bind fun xs S2 => callN P k f (x :: xs) S2
      | none => .bad) := by
  obtain ⟨pl, ht⟩ := meth_ht (m := T.an m) (env := X.env) (es := []) hb rfl (by simp) hli
  refine ⟨fun pins sh σ H Q I h => ?_⟩
  refine PySem.W.methodCall_KW (pl := pl) (thn (ho.run pins sh σ H _ I (tW_seq (k := fun r x S1 => match methOf P S1 x m with
      | some f => (evs P Fo' [] r S1).bind fun xs S2 => callN P k f (x :: xs) S2
      | none => .bad) h)) fun u s1 ⟨x, H1, I1, rx, S, is, r, w, hS, hr, hw, hp⟩ => ?_) ht
  dsimp only at hp
  split at hp
  case h_2 => exact hp.elim
  rename_i f ef
  obtain ⟨a, c, dx, ys, rfl, e3, ln, ec⟩ := meth_at W.tb hS hw ef
  obtain rfl : u = Value.ref a := rx
  obtain ⟨d, hd, hm⟩ := M.mt c m f ec
  obtain ⟨hc, hm⟩ : Cls T.K (T.ca c) ∧ Meth T.K (T.ca c) (T.an m) d.f := hm.resolve_right id
  unfold evs at hp
  refine getmeth_ok I1 e3 (W.hK ▸ hc) (W.hK ▸ hm) ln ?_
  exact PySem.W.callWith_K0 (first := [.ref a]) I1.kIn (W.hK ▸ hm.kp) (call_end (run_call W hd I1 (.cons (show RelV (V.ref a) (Value.ref a) from rfl) .nil) ⟨S, is, [w], hS, .cons hw .nil, hp⟩))

/-! ### C.m(..), C(), keywords -/
structure CmOk (T : Tb) (P : Pg) (TD : Nat → Option Dd) : Prop where
  cm : ∀ c m i, P.cmet c m = some i → ∃ d mc p, TD i = some d ∧ ClX.CRead T.K (T.ca c) mc ∧ ClX.CMet T.K (T.ca c) mc (T.an m) p d.f
  mkk : ∀ c i, P.init c = some i → ∃ d, TD i = some d ∧ Mk T.K (T.ca c) d.f
theorem e_cm (W : Wk T P TD CX co X E k) (M : CmOk T P TD) {c m : Nat} {o : Expr} {es : List Expr} {apos pos : Pos} {ms : Mw (List Wv)} (ho : PE X o (tC (.ref (T.ca c)))) (hc : P.cmet c m = some i) (ha : PA X es (tWs T E ms)) (hb : baseOk o = true) (hst : es.all notStar = true) (hl : es.length < 29) (hli : (apos.endLine == pos.line) = true) (hn : es ≠ []) :
    PE X (.Call (.Attribute o (T.an m) apos) es [] pos) (tW T E fun r S => (ms r S).bind fun xs S1 => callN P k i (.cls c :: xs) S1) := by
  obtain ⟨pl, ht⟩ := meth_ht (m := T.an m) (env := X.env) hb hst hl hli
  obtain ⟨d, mc, p, hd, cr, cm⟩ := M.cm c m i hc
  refine ⟨fun pins sh σ H Q I h => ?_⟩
  refine PySem.W.methodCall_KW (pl := pl) (thn (ho.run pins sh σ H (fun v H1 => v = .ref (T.ca c) ∧ H1 = H) I ⟨rfl, rfl⟩) fun u s1 ⟨x, H1, I1, rx, ex, eH⟩ => ?_) ht
  subst ex eH
  obtain rfl : u = Value.ref (T.ca c) := rx
  refine ClX.getmethcm_ok I1 (W.hK ▸ cr) (W.hK ▸ cm) fun s2 I2 => ?_
  cases es with
  | nil => exact absurd rfl hn
  | cons b bs =>
    rw [List.all_cons, Bool.and_eq_true] at hst
    refine ClX.callwith_cm I2 (ClX.base_none I1 (Nat.le_refl _)) (W.hK ▸ cm.fi) (thn (ha.run pos _ s2 σ _ _ I2 (tWs_seq (k := fun _ xs S1 => callN P k i (.cls c :: xs) S1) h)) fun us s3 ⟨vs, H2, I3, rv, S, is, _, ws, hS, _, hw, hp⟩ => ⟨⟨ClX.pin_at I3, I3.kIn⟩, ?_⟩) (star_ok hst.1) (back_plain hst.2)
    refine thn (call_end (PySem.W.method_call (ClX.pin_at I3) (run_call W hd I3 (us := .ref (T.ca c) :: us) (vs := .ref (T.ca c) :: vs) (.cons (show RelV (V.ref (T.ca c)) (Value.ref (T.ca c)) from rfl) rv) ⟨S, is, .cls c :: ws, hS, .cons (by unfold RW; rfl) hw, hp⟩))) fun _ _ y => ClX.unpinE y
theorem under_guards {A : Around} {a : Args} : (A.under (.builtin "type.__call__" a)).guards = A.guards := by
  first | rfl | simp [Around.under, Code.weight, Code.isCreation, Code.isGuard, Code.isCaller, Code.frames, Code.isFrame, guardIds]
theorem run_new (W : Wk T P TD CX co X E k) {c : Nat} (hd : TD i = some d) (M : Mk X.K (T.ca c) d.f) {pins : List (Addr × Obj)} {σ : L2.St} {sh : Shared} {Q : VK} (I : Inv X pins σ H sh)
    (h : ∃ S is, RS T S is H ∧ ((callN P k i [.ref S.length] (S ++ [.ins c []])).bind fun y S2 => match y with
      | .non => .ok (.ref S.length) S2
      | _ => .bad).post (qW T S is H Q) (qX T E S is H)) : wpAny (model X.prog X.w) X.A (call (.ref (T.ca c)) []) (EP X pins σ Q) X.xe sh := by
  obtain ⟨S, is, hS, hp⟩ := h
  obtain ⟨e, ok⟩ := W.defs i d hd
  have nd : H sh.heap.objs.size = none := I.hok.fresh (Nat.le_refl _)
  have nx : H (sh.heap.objs.size + 1) = none := I.hok.fresh (Nat.le_succ _)
  have ne : sh.heap.objs.size + 1 ≠ sh.heap.objs.size := Nat.succ_ne_self _
  have h1 := hS.new (o := .own (sh.heap.objs.size + 1)) nd
  have f1 := Fr.new (o := .own (sh.heap.objs.size + 1)) hS nd
  have nx1 : upd H sh.heap.objs.size (.own (sh.heap.objs.size + 1)) (sh.heap.objs.size + 1) = none := by rw [upd_ne ne]; exact nx
  obtain ⟨h2, f2⟩ := h1.push (o := .ins (T.ca c) sh.heap.objs.size []) (ob := .ins c []) nx1 ⟨_, [], upd_same, by unfold RFs; rfl⟩
  have I2 := Inv.made (C := T.ca c) I
  have ff := f1.trans f2
  have z := runs_at (A := X.A.under (.builtin "type.__call__" ⟨[.ref (T.ca c)], []⟩)) (us := [Value.ref (sh.heap.objs.size + 1)]) (vs := [V.ref (sh.heap.objs.size + 1)]) (Q := fun v H3 => v = .non ∧ Q (.ref (sh.heap.objs.size + 1)) H3) (E := E)
    (W.runs i d hd) ok W.up (W.room.make (T.ca c) [] []) (by rw [under_guards]; exact W.grd) (I2.env0.make (T.ca c) [] []) (.cons rfl .nil)
    ⟨S ++ [.ins c []], is ++ [sh.heap.objs.size + 1], [.ref S.length], h2, .cons (by
      unfold RW
      exact ⟨_, rfl, by rw [← hS.len]; simp⟩) .nil, R.post_mono (R.post_bind hp) (fun y S3 q is3 H3 v h3 f3 hv => ?_) fun _ _ _ z is' H' d ys h1 f => z is' H' d ys h1 (ff.trans f)⟩
  · refine wpAny_call (make_map (f := d.f) I.kIn M.makes M.init (beq_iff_eq.mp M.fn) (codeAny_mono z fun r s' hq => ?_))
    cases r with
    | error e => exact W.pass pins σ _ _ e s' I2 hq
    | ok fl =>
      cases fl with
      | ret u =>
        obtain ⟨v, H', I3, rv, ev, q3⟩ := I2.after hq
        subst ev
        exact ⟨rv, ⟨V.ref (sh.heap.objs.size + 1), H', I3, rfl, q3⟩⟩
      | next => exact False.elim hq
      | brk => exact False.elim hq
      | cont => exact False.elim hq
  · cases y with
    | non =>
      refine ⟨RW.inj_non hv, q is3 H3 _ h3 (ff.trans f3) ?_⟩
      unfold RW
      exact ⟨_, rfl, f3.at_ (by rw [← hS.len]; simp)⟩
    | _ => exact q.elim
/-- x(), x a name that holds a class -/
theorem e_new0 (W : Wk T P TD CX co X E k) (M : CmOk T P TD) {x : Str} {p pos : Pos} {mo : Mw Wv} (hf : PE X (.Name x p) (tW T E mo)) : PE X (.Call (.Name x p) [] [] pos) (tW T E fun r S => (mo r S).bind fun y S1 => makeW P (callN P k) y S1) := by
  refine ⟨fun pins sh σ H Q I h => ?_⟩
  refine wpAny_Call_Name_kw (thn (hf.run pins sh σ H _ I (tW_1 (g := fun y S1 => makeW P (callN P k) y S1) h)) fun u s1 ⟨v, H1, I1, rv, S, is, w, hS, hw, hp⟩ => ?_)
  unfold makeW at hp
  dsimp only at hp
  split at hp
  · rename_i c
    unfold RW at hw
    subst hw
    obtain rfl : u = Value.ref (T.ca c) := rv
    split at hp
    · rename_i i hi
      obtain ⟨d, hd, mk⟩ := M.mkk c i hi
      exact PySem.W.callWith_K0 I1.kIn (W.hK ▸ mk.kp) (run_new W hd (W.hK ▸ mk) I1 ⟨S, is, hS, hp⟩)
    · exact hp.elim
  · exact hp.elim
end Pe

set_option Elab.async false
set_option linter.all false
set_option maxRecDepth 100000
/-! Calls with keywords. -/
namespace Pe
open PySem PySem.Spec PyProof.Rows L2
variable {T : Tb} {E : XK} {X : Cx} {S S1 S2 : Sto} {is is1 is2 : List Addr} {H H1 H2 : Hp} {s : L2.St} {P : Pg} {Fn : Fo} {CX : CXT} {k i : Nat} {d : Dd} {e : Fd} {TD : Nat → Option Dd} {co : List Str}

theorem rws_pick {ws : List Wv} {vs : List V} (h : RWs T is H ws vs) : ∀ {perm : List Nat} {zs : List Wv}, (perm.mapM fun j => ws[j]?) = some zs → ∃ us, (perm.mapM fun j => vs[j]?) = some us ∧ RWs T is H zs us
  | [], zs, e => by
    simp only [List.mapM_nil] at e
    cases e
    exact ⟨[], rfl, .nil⟩
  | j :: js, zs, e => by
    simp only [List.mapM_cons] at e
    obtain ⟨z, e1, e2⟩ := Option.bind_eq_some_iff.mp e
    obtain ⟨r, e3, e4⟩ := Option.bind_eq_some_iff.mp e2
    cases e4
    obtain ⟨v, h1, h2⟩ := h.get e1
    obtain ⟨us, h3, h4⟩ := rws_pick h e3
    exact ⟨v :: us, by simp only [List.mapM_cons, h1, h3]; rfl, .cons h2 h4⟩
theorem vals_pick {ws : List V} {vs : List Value} (h : Vals ws vs) : ∀ {perm : List Nat} {zs : List V}, (perm.mapM fun j => ws[j]?) = some zs → ∃ us, (perm.mapM fun j => vs[j]?) = some us ∧ Vals zs us
  | [], zs, e => by
    simp only [List.mapM_nil] at e
    cases e
    exact ⟨[], rfl, .nil⟩
  | j :: js, zs, e => by
    simp only [List.mapM_cons] at e
    obtain ⟨z, e1, e2⟩ := Option.bind_eq_some_iff.mp e
    obtain ⟨r, e3, e4⟩ := Option.bind_eq_some_iff.mp e2
    cases e4
    obtain ⟨v, h1, h2⟩ := h.get e1
    obtain ⟨us, h3, h4⟩ := vals_pick h e3
    exact ⟨v :: us, by simp only [List.mapM_cons, h1, h3]; rfl, .cons h2 h4⟩
/-- how a call binds that has n arguments and then the keywords ks -/
def KwOk (d : Dd) (n : Nat) (ks : List Str) (perm : List Nat) : Prop := ∀ us ws zs : List Value, us.length = n → ws.length = ks.length → (perm.mapM fun j => (us ++ ws)[j]?) = some zs → bindArgs d.fd ⟨us, ks.zip ws⟩ = pure (d.ps.zip zs)
theorem run_callK (W : Wk T P TD CX co X E k) {pins : List (Addr × Obj)} {σ : L2.St} {sh : Shared} {Q : VK} {us zs : List Value} {kw : List (Str × Value)} {vs : List V} (hd : TD i = some d) (nk : ∀ e, P.fn i = some e → e.kw = false) (I : Inv X pins σ H sh) (r : Vals vs zs) (hb : BindsTo sh d.fd ⟨us, kw⟩ (d.ps.zip zs))
    (h : ∃ S is ws, RS T S is H ∧ RWs T is H ws vs ∧ (callN P k i ws S).post (qW T S is H Q) (qX T E S is H)) : codeAny (model X.prog X.w) X.A (.call (.ref d.f) ⟨us, kw⟩) (CEnd X pins σ Q) sh := by
  obtain ⟨e, ok⟩ := W.defs i d hd
  obtain ⟨S, is, ws, hS, hw, hp⟩ := h
  refine codeAny_mono (W.runs i d hd X.A X.stack sh H ⟨us, kw⟩ Q E W.room0 W.grd I.env0 ?_) (cr_end I W.pass)
  unfold callN at hp
  rw [ok.fn] at hp
  dsimp only at hp
  split at hp
  case isFalse => exact hp.elim
  rename_i hl
  have hk := nk e ok.fn
  rw [if_neg (by rw [hk]; exact Bool.false_ne_true)] at hp
  have np := ok.np
  rw [hk] at np
  simp at np
  have l1 := hw.length
  exact fun A' Ex Q' hq => hb _ _ _ _ (hq sh H vs zs I.env0 .refl rfl (fun _ _ z => z) r (by omega) ⟨S, is, H, S, is, ws, hS.len, hS, .rfl', hw, hp⟩)
theorem k_nil : PK X [] (tWs T E fun _ S => .ok [] S) := ⟨fun p pins sh σ H Q I h => pk_nil.run p pins sh σ H Q I (by
  obtain ⟨S, is, r, hS, hr, hp⟩ := h
  exact hp is H [] hS .rfl' .nil)⟩
theorem k_cons {nm : Option Str} {a : Expr} {kp : Pos} {kws : List Keyword} {m : Mw Wv} {ms : Mw (List Wv)} (ha : PE X a (tW T E m)) (hk : PK X kws (tWs T E ms)) : PK X (⟨nm, a, kp⟩ :: kws) (tWs T E fun r S => (m r S).bind fun x S1 => (ms r S1).bind fun xs S2 => .ok (x :: xs) S2) :=
  ⟨fun p pins sh σ H Q I h => (pk_cons (nm := nm) (kpos := kp) ha hk).run p pins sh σ H Q I (by
    obtain ⟨S, is, r, hS, hr, hp⟩ := h
    refine ⟨S, is, r, hS, hr, R.post_mono (R.post_bind hp) (fun x S1 q is1 H1 v h1 f hv => ?_) fun _ _ _ z => z⟩
    refine ⟨S1, is1, r, h1, hr.fr hS f, R.post_mono (R.post_bind q) (fun xs S2 q2 is2 H2 vs h2 f2 hvs => ?_) fun _ _ _ z => z.fr f⟩
    exact q2 is2 H2 (v :: vs) h2 (f.trans f2) (.cons (RW.fr h1 f2 x v hv) hvs))⟩
/-- the names of a call's keywords -/
def kwNames : List Keyword → Option (List Str)
  | [] => some []
  | ⟨some x, _, _⟩ :: r => (kwNames r).map fun t => x :: t
  | _ :: _ => none
theorem kw_all {env : Env} {pos : Pos} : ∀ {kws : List Keyword} {ks : List Str}, kwNames kws = some ks → (backToKw pos (keywordEach kws env)).all (·.1.isSome) = true ∧ (backToKw pos (keywordEach kws env)).any (·.1.isNone) = false ∧ (backToKw pos (keywordEach kws env)).filterMap (·.1) = ks
  | [], ks, e => by cases e; exact ⟨rfl, rfl, rfl⟩
  | ⟨some x, a, p⟩ :: r, ks, e => by
    unfold kwNames at e
    obtain ⟨t, e1, rfl⟩ := Option.map_eq_some_iff.mp e
    obtain ⟨h1, h2, h3⟩ := kw_all (env := env) (pos := pos) e1
    refine ⟨?_, ?_, ?_⟩
    · show (true && (backToKw pos (keywordEach r env)).all (·.1.isSome)) = true
      rw [h1]
      rfl
    · show (false || (backToKw pos (keywordEach r env)).any (·.1.isNone)) = false
      rw [h2]
      rfl
    · show x :: (backToKw pos (keywordEach r env)).filterMap (·.1) = x :: t
      rw [h3]
  | ⟨none, a, p⟩ :: r, ks, e => by cases e
abbrev mFnk (P : Pg) (k i : Nat) (perm : List Nat) (ms mk : Mw (List Wv)) : Mw Wv := fun r S => (ms r S).bind fun xs S1 => (mk r S1).bind fun ys S2 => match perm.mapM fun j => (xs ++ ys)[j]? with
    | some zs => callN P k i zs S2
    | none => .bad
theorem fnk_fin (W : Wk T P TD CX co X E k) {pins : List (Addr × Obj)} {σ : L2.St} {sh : Shared} {Q : VK} {perm : List Nat} {ks : List Str} {n : Nat} {us ws : List Value} {vs zs : List V} (hd : TD i = some d) (nk : ∀ e, P.fn i = some e → e.kw = false) (kw : KwOk d n ks perm) (I : Inv X pins σ H sh) (r : Vals vs us) (r' : Vals zs ws) (hn : us.length = n) (hk : ws.length = ks.length)
    (h : ∃ S is xs ys, RS T S is H ∧ RWs T is H xs vs ∧ RWs T is H ys zs ∧ (match perm.mapM fun j => (xs ++ ys)[j]? with
    | some zs => callN P k i zs S
    | none => .bad).post (qW T S is H Q) (qX T E S is H)) : wpAny (model X.prog X.w) X.A (call (.ref d.f) us (ks.zip ws)) (EP X pins σ Q) X.xe sh := by
  obtain ⟨S, is, xs, ys, hS, hx, hy, hp⟩ := h
  split at hp
  · rename_i qs eq
    obtain ⟨v1, e1, g1⟩ := rws_pick (hx.append hy) eq
    obtain ⟨u1, e2, g2⟩ := vals_pick (r.append r') e1
    exact call_end (run_callK W hd nk I g2 (.of_eq (kw us ws u1 hn hk e2)) ⟨S, is, qs, hS, g1, hp⟩)
  · exact hp.elim
/-- f(k = v, ..) -/
theorem e_fnk0 (W : Wk T P TD CX co X E k) {x : Str} {p pos : Pos} {kws : List Keyword} {ks : List Str} {perm : List Nat} {mk : Mw (List Wv)} {Fo' : Fo} (hd : TD i = some d) (nk : ∀ e, P.fn i = some e → e.kw = false) (hg : Gl X x) (hm : X.mg x = some (.ref d.f)) (kw : KwOk d 0 ks perm) (hkw : PK X kws (tWs T E mk)) (hks : kwNames kws = some ks)
    (hlen : ∀ (r : Ev) (S : Sto), (mk r S).post (fun xs _ => xs.length = ks.length) (fun _ _ _ => True) ∨ mk r S = .bad) (hdb : (x == ("__debug__" : Str)) = false) :
    PE X (.Call (.Name x p) [] kws pos) (tW T E (mFnk P k i perm (fun r S => evs P Fo' [] r S) mk)) := by
  obtain ⟨e, ok⟩ := W.defs i d hd
  obtain ⟨h1, h2, h3⟩ := kw_all (env := X.env) (pos := pos) hks
  refine ⟨fun pins sh σ H Q I ⟨S, is, r, hS, hr, hp⟩ => ?_⟩
  refine wpAny_Call_Name_kw (ld_glob I hg hm ?_ hdb)
  refine PySem.W.callWith_KW0 (h₀ := X.base) I.ok.mod.kin ok.fu.kp h1 (thn (hkw.run pos pins sh σ H (fun zs H1 => zs.length = ks.length ∧ ∃ S is ys, RS T S is H1 ∧ RWs T is H1 ys zs ∧ (match perm.mapM fun j => ([] ++ ys)[j]? with
    | some zs => callN P k i zs S
    | none => .bad).post (qW T S is H1 Q) (qX T E S is H1)) I ⟨S, is, r, hS, hr, ?_⟩) fun ws s2 ⟨zs, H2, I2, rz, el, S2, is2, ys, hS2, hy, hp2⟩ => ⟨I2.kIn, ?_⟩) (by
      show ((false : Bool) || (backToKw pos (keywordEach kws X.env)).any (·.1.isNone)) = false
      rw [h2]
      rfl)
  · unfold mFnk evs at hp
    rw [R.bind_ok] at hp
    rcases hlen r S with hl | hl
    · refine R.post_mono (f := fun ys S1 => ys.length = ks.length ∧ (match perm.mapM fun j => ([] ++ ys)[j]? with
        | some zs => callN P k i zs S1
        | none => .bad).post (qW T S is H Q) (qX T E S is H)) ?_ (fun ys S1 q is1 H1 zs h1 f hy => ?_) fun _ _ _ z => z
      · have hp' := R.post_bind hp
        cases e : mk r S with
        | ok ys S1 => rw [e] at hp' hl; exact ⟨hl, hp'⟩
        | exc c v S1 => rw [e] at hp'; exact hp'
        | bad => rw [e] at hp'; exact hp'
      · exact ⟨by rw [← hy.length]; exact q.1, S1, is1, ys, h1, hy, R.post_mono q.2 (fun _ _ z => z.fr f) fun _ _ _ z => z.fr f⟩
    · have hp' := R.post_bind hp
      rw [hl] at hp'
      exact hp'.elim
  · rw [h3]
    exact fnk_fin W hd nk kw I2 (us := []) .nil rz rfl (by rw [← rz.length]; exact el) ⟨S2, is2, [], ys, hS2, .nil, hy, hp2⟩
theorem evs_len {es : List C} {r : Ev} {S : Sto} : (evs P Fn es r S).post (fun xs _ => xs.length = es.length) (fun _ _ _ => True) ∨ evs P Fn es r S = .bad := by
  induction es generalizing S with
  | nil => exact .inl (by unfold evs; rfl)
  | cons c cs ih =>
    unfold evs
    cases e : ev P Fn c r S with
    | bad => exact .inr rfl
    | exc c v S1 => exact .inl trivial
    | ok x S1 =>
      rw [R.bind_ok]
      rcases ih (S := S1) with h | h
      · cases e2 : evs P Fn cs r S1 with
        | bad => exact .inr rfl
        | exc c v S1 => exact .inl trivial
        | ok xs S2 =>
          rw [e2] at h
          refine .inl ?_
          show (x :: xs).length = (c :: cs).length
          have h' : xs.length = cs.length := h
          rw [List.length_cons, List.length_cons, h']
      · rw [h]
        exact .inr rfl
end Pe

set_option Elab.async false
set_option linter.all false
set_option maxRecDepth 100000
set_option maxHeartbeats 4000000
/-! x[::-1], {}, list(d.items()), len(set(texts)). -/
namespace Pe
open PySem PySem.Spec PyProof.Rows L2 HT
section
variable {prog : Program} {w : World} {A : Around} {E : Value → Shared → Prop} {s : Shared}
theorem places_back (n : Nat) : Builtin.Slice.slicePlaces ((n : Int) - 1) (-1) (-1) = n := by
  unfold Builtin.Slice.slicePlaces
  have h1 : ¬ ((-1 : Int) > 0) := by omega
  simp only [h1, if_false]
  have h2 : (-(-1) : Int) = 1 := by omega
  rw [h2, Int.ediv_one]
  split <;> omega
theorem slice_back {sl : Addr} {vl vu vk : Value} {n : Nat} {Q : Int × Int × Nat → Shared → Prop} (hs : s.heap.IsSliceOf sl vl vu vk) (pl : IsPart vl none) (pu : IsPart vu none) (pk : IsPart vk (some (-1)))
    (h : Q ((n : Int) - 1, -1, n) s) : wpAny (model prog w) A (Builtin.Slice.sliceApplied (.ref sl) (pure (n : Int))) Q E s := by
  obtain ⟨os, hos, hcs, hds⟩ := id hs
  unfold Builtin.Slice.sliceApplied Builtin.Slice.sliceFields
  refine wpAny_bind (wpAny_bind (wpAny_field hos hds (x := vl) rfl (wpAny_bind (wpAny_field hos hds (x := vu) rfl (wpAny_bind (wpAny_field hos hds (x := vk) rfl (wpAny_pure ?_)))))))
  refine wpAny_bind (slicePart_ pk ?_)
  show wpAny _ _ (if (((-1 : Int)) == 0) = true then _ else _) _ _ s
  rw [if_neg (by decide)]
  refine wpAny_bind (slicePart_ pl (wpAny_bind (slicePart_ pu (wpAny_bind (wpAny_pure ?_)))))
  show wpAny _ _ (pure ((n : Int) - 1, (-1 : Int), Builtin.Slice.slicePlaces ((n : Int) - 1) (-1) (-1))) _ _ s
  rw [places_back]
  exact wpAny_pure h
theorem fm_congr {α β : Type} {f g : α → Option β} : ∀ (l : List α), (∀ m ∈ l, f m = g m) → l.filterMap f = l.filterMap g
  | [], _ => rfl
  | x :: l, h => by rw [List.filterMap_cons, List.filterMap_cons, h x List.mem_cons_self, fm_congr l fun m hm => h m (List.mem_cons_of_mem _ hm)]
theorem pick_back (xs : Array Value) : ((List.range xs.size).filterMap fun (m : Nat) => xs[(((xs.size : Int) - 1) + (m : Int) * (-1)).toNat]?) = xs.toList.reverse := by
  have h : (List.range xs.size).filterMap (fun (m : Nat) => xs[(((xs.size : Int) - 1) + (m : Int) * (-1)).toNat]?) = ((List.range xs.size).map fun k => xs.size - 1 - k).filterMap (xs[·]?) := by
    rw [List.filterMap_map]
    refine fm_congr _ fun m hm => ?_
    have : (((xs.size : Int) - 1) + (m : Int) * (-1)).toNat = xs.size - 1 - m := by
      have := List.mem_range.mp hm
      omega
    show xs[_]? = xs[xs.size - 1 - m]?
    rw [this]
  rw [h, PySem.W.krv_range, List.filterMap_reverse, PySem.W.krv_all]
theorem tup_back {t sl : Addr} {items : Array Value} {vl vu vk : Value} {Q : Value → Shared → Prop} (ht : IsTup s.heap t items) (hs : s.heap.IsSliceOf sl vl vu vk) (pl : IsPart vl none) (pu : IsPart vu none) (pk : IsPart vk (some (-1)))
    (hz : items.size ≤ sizeLine) (h : Q (.ref s.heap.objs.size) { s with heap := s.heap.push { cls := .type "tuple", data := .seq items.toList.reverse.toArray } }) : wpAny (model prog w) A (getItem (.ref t) (.ref sl)) Q E s := by
  obtain ⟨os, hos, hcs, hds⟩ := id hs
  have isS : s.TypeIs (.ref sl) "slice" := ⟨os, hos, hcs⟩
  have fit : sizeOk (.seq items.toList.reverse.toArray) := by
    show items.toList.reverse.toArray.size ≤ sizeLine
    rw [List.size_toArray, List.length_reverse, Array.length_toList]
    exact hz
  unfold getItem
  try with_reducible refine wpAny_holding ?_
  first | refine wpAny_bind (wpAny_pure ?_) | skip
  refine wpAny_bind (wpAny_sequenceKey ht.typeIs (by decide) ?_)
  refine wpAny_bind (wpAny_callSpecial?_slot (name := Str.ofString "__getitem__") ht.typeIs slot_tuple_getitem (wpAny_call_entry slot_tuple_getitem ht.typeIs entry_tuple_getitem ?_ (args_tuple_getitem _ _)))
  show wpAny _ _ (Builtin.Tuple.tupleItemsOf (.ref t) >>= _) _ _ s
  refine wpAny_bind (tupleItemsOf_ ht (wpAny_bind (wpAny_typeOf isS ?_)))
  rw [if_pos (by decide)]
  refine wpAny_bind (slice_back hs pl pu pk ?_)
  show wpAny _ _ (if ((((items.size : Int) - 1) == 0 && (-1 : Int) == 1 && items.size == items.size)) = true then _ else _) _ _ s
  rw [if_neg (by simp)]
  rw [pick_back]
  first
    | exact wpAny_bind (m := Builtin.Tuple.tupleExact _) (wpAny_newObj_type (wpAny_pure ⟨_, rfl, wpAny_pure h⟩) fit)
    | exact wpAny_bind (m := Builtin.Tuple.tupleExact _) (wpAny_newObj_type (wpAny_bind (wpAny_pure (wpAny_pure ⟨_, rfl, wpAny_pure h⟩))) fit)
    | exact wpAny_bind (wpAny_bind (m := Builtin.Tuple.tupleExact _) (wpAny_newObj_type (wpAny_pure (wpAny_pure ⟨_, rfl, wpAny_pure h⟩)) fit))
    | exact wpAny_bind (wpAny_bind (m := Builtin.Tuple.tupleExact _) (wpAny_newObj_type (wpAny_pure ⟨_, rfl, wpAny_pure h⟩) fit))
end
section
variable {X : Cx} {T : Tb} {E : XK} {S : Sto} {is : List Addr} {H : Hp}
/-- t[::-1] -/
def tRevT (K : PySem.W.Frag) (te : TE) : TE := fun σ H Q => te σ H fun x H1 => ∃ a xs, x = .ref a ∧ SqT K H1 a xs ∧ ∀ p, H1 p = none → Q (.ref p) (upd H1 p (.tup xs.reverse))
def tRev2 (K : PySem.W.Frag) (te : TE) : TE := fun σ H Q => te σ H fun x H1 => (∃ a xs, x = .ref a ∧ SqT K H1 a xs ∧ ∀ p, H1 p = none → Q (.ref p) (upd H1 p (.tup xs.reverse))) ∨ ∃ a xs, x = .ref a ∧ SqL K H1 a xs ∧ ∀ p, H1 p = none → Q (.ref p) (upd H1 p (.lst xs.reverse))
theorem pe_rev2 {e : Expr} {te : TE} {k : Nat} {p1 p2 p3 pos : Pos} (he : PE X e te) : PE X (.Subscript e (.Slice none none (some (.UnaryOp .USub (.Constant (.int 1) k p1) p2)) p3) pos) (tRev2 X.K te) := by
  refine ⟨fun pins s σ H Q I h => ?_⟩
  refine Subscript_ (thn (he.run pins s σ H _ I h) fun v s1 ⟨x, H1, I1, r1, q1⟩ => ?_)
  have step : PO X (some (.UnaryOp .USub (.Constant (.int 1) k p1) p2)) (tPart (tUn (rU fun i => .int (-i)) (tC (.int 1)))) := po_some (pe_un un_neg pe_int)
  refine wpAny_Slice (thn (po_none.run pins s1 σ H1 (fun o G => o = none ∧ G = H1) I1 ⟨rfl, rfl⟩) fun vl s2 ⟨l, G2, I2, pl, el, e2⟩ => ?_)
  subst el e2
  refine thn (po_none.run pins s2 σ G2 (fun o G => o = none ∧ G = G2) I2 ⟨rfl, rfl⟩) fun vu s3 ⟨u, G3, I3, pu, eu, e3⟩ => ?_
  subst eu e3
  refine thn (step.run pins s3 σ G3 (fun o G => o = some (-1) ∧ G = G3) I3 ⟨1, rfl, -1, rfl, rfl, rfl⟩) fun vs s4 ⟨o, G4, I4, ps, eo, e4⟩ => ?_
  subst eo e4
  have I5 : Inv X pins σ G4 { s4 with heap := s4.heap.push { cls := .type "slice", data := .fields #[vl, vu, vs] } } := I4.kept (t' := s4.toks) fun b ob q => Heap.get?_push_of_some _ q
  rcases q1 with ⟨a, xs, ex, hx, q⟩ | ⟨a, xs, ex, hx, q⟩
  · subst ex
    cases r1
    obtain ⟨its, r, ht, hz⟩ := I5.tuple hx
    show wpAny (model X.prog X.w) X.A (subscriptTail e (.Slice none none (some (.UnaryOp .USub (.Constant (.int 1) k p1) p2)) p3) (.ref a) (.ref s4.heap.objs.size)) (EP X pins σ Q) X.xe { s4 with heap := s4.heap.push { cls := .type "slice", data := .fields #[vl, vu, vs] } }
    refine tail_any (ops := [.ref a, .ref s4.heap.objs.size]) ht.typeIs (slot_tuple_getitem.lookup) ?_ (by with_unfolding_all rfl)
    refine tup_back ht (Heap.IsSliceOf.new _ vl vu vs) pl pu ps (by rw [List.size_toArray, ← r.length]; exact hz) ?_
    refine ⟨.ref _, _, I5.laid (t' := s4.toks) (o := .tup xs.reverse) (fun b ob q => Heap.get?_push_of_some _ q) (Nat.le_refl _) ?_, rfl, q _ (I5.hok.fresh (Nat.le_refl _))⟩
    exact ⟨by rw [List.length_reverse]; exact hz, _, r.reverse, IsTup.new _ _⟩
  · subst ex
    cases r1
    obtain ⟨its, r, ht, hz⟩ := I5.list hx
    have hlen := r.length
    show wpAny (model X.prog X.w) X.A (subscriptTail e (.Slice none none (some (.UnaryOp .USub (.Constant (.int 1) k p1) p2)) p3) (.ref a) (.ref s4.heap.objs.size)) (EP X pins σ Q) X.xe { s4 with heap := s4.heap.push { cls := .type "slice", data := .fields #[vl, vu, vs] } }
    refine tail_any (ops := [.ref a, .ref s4.heap.objs.size]) ht.isList.typeIs (PySem.slot_list_getitem.lookup) ?_ (by with_unfolding_all rfl)
    refine wpAny_getItem_list_slice ht.isList (Heap.IsSliceOf.new _ vl vu vs) pl pu ps (by decide) ?_ (by rw [List.size_toArray]; omega)
    rw [PySem.W.krv_pick]
    refine ⟨.ref _, _, I5.laid (t' := s4.toks) (o := .lst xs.reverse) (fun b ob q => Heap.get?_push_of_some _ q) (Nat.le_refl _) ?_, rfl, q _ (I5.hok.fresh (Nat.le_refl _))⟩
    exact ⟨by rw [List.length_reverse]; exact hz, _, 0, r.reverse, Heap.get?_push_size _ rfl⟩
/-- x[::-1]; a new list is kept in the store, or locked -/
theorem e_rev {e : Expr} {k : Nat} {bx : Bool} {p1 p2 p3 pos : Pos} {m : Mw Wv} (hK : X.K = T.K) (he : PE X e (tW T E m)) : PE X (.Subscript e (.Slice none none (some (.UnaryOp .USub (.Constant (.int 1) k p1) p2)) p3) pos) (tW T E fun r S => (m r S).bind fun x S1 => match view S1 x with
      | .tup xs => if bx = true then .bad else .ok (.tup xs.reverse) S1
      | .lst xs => newL bx xs.reverse S1
      | _ => .bad) := by
  refine ⟨fun pins sh σ H Q I ⟨S, is, r, hS, hr, hp⟩ => ?_⟩
  refine thn ((pe_rev2 (k := k) (p1 := p1) (p2 := p2) (p3 := p3) (pos := pos) he).run pins sh σ H (fun v H' => Q v H' ∨ ∃ S' is' p ys xs, v = .ref p ∧ RS T S' is' H' ∧ Fr S is H S' is' H' ∧ H p = none ∧ H' p = some (.lst ys) ∧ ¬ Liv S' is' p ∧ RWs T is' H' xs ys ∧ (newL bx xs S').post (qW T S is H Q) (qX T E S is H)) I
    ⟨S, is, r, hS, hr, R.post_mono (R.post_bind hp) (fun w S1 q is1 H1 x h1 f hw => ?_) fun _ _ _ z => z⟩) fun u s' hz => ?_
  · have va := h1.view hw
    split at q
    · rename_i xs ev
      rw [ev] at va
      obtain ⟨p, ys, rfl, hp, rr⟩ := va.tup
      split at q
      · exact q.elim
      · refine .inl ⟨p, ys, rfl, hK ▸ hp, fun n hn => .inl (q is1 _ _ (h1.new hn) (f.trans (.new h1 hn)) (.tup_new h1 hn rr.reverse))⟩
    · rename_i xs ev
      rw [ev] at va
      obtain ⟨p, ys, rfl, hp, rr⟩ := va.lst
      exact .inr ⟨p, ys, rfl, .inl hp, fun n hn => .inr ⟨S1, is1, n, ys.reverse, xs.reverse, rfl, h1.new hn, f.trans (.new h1 hn), f.free hn, upd_same, fun l => (Liv.ne h1 l hn) rfl, RWs.fr h1 (.new h1 hn) _ _ rr.reverse, q⟩⟩
    · exact q.elim
  · obtain ⟨v, H', I', rv, hz⟩ := hz
    rcases hz with hz | ⟨S', is', p, ys, xs, rfl, h1, f, np, hp1, nl, hv, q⟩
    · exact ⟨v, H', I', rv, hz⟩
    · unfold newL at q
      split at q
      · split at q
        · obtain ⟨g1, g2, g3⟩ := adopt_ok h1 f np hp1 nl hv
          exact ⟨.ref p, H', I', rv, q _ _ _ g1 g2 g3⟩
        · obtain ⟨od, I2⟩ := I'.lock hp1 trivial
          obtain ⟨g1, g2, g3⟩ := frz_ok (od := od) h1 f np hp1 nl hv
          exact ⟨.ref p, _, I2, rv, q _ _ _ g1 g2 g3⟩
      · exact q.elim
/-- {} -/
theorem e_dnew {pos : Pos} : PE X (.Dict [] [] pos) (tW T E fun _ S => .ok (.ref S.length) (S ++ [.dic []])) := pe_dnewK.weak fun s H Q ⟨S, is, r, hS, hr, hp⟩ => fun p np => by
  obtain ⟨h1, f⟩ := hS.push (o := .dK []) (ob := .dic []) np ⟨[], upd_same, by unfold RKs; rfl⟩
  refine hp _ _ _ h1 f ?_
  unfold RW
  exact ⟨p, rfl, by rw [← hS.len]; simp⟩
theorem pairs_rw {H : Hp} {is : List Addr} : ∀ {kvs : List (Key × Wv)} {ys : List (Key × V)} {ts : List Addr}, RKs T is H kvs ys → Paired (fun (t : Addr) (q : Key × V) => H t = some (.tup [kV q.1, q.2])) ts ys → RWs T is H (kvs.map fun p => .tup [keyW p.1, p.2]) (ts.map V.ref)
  | [], ys, ts, h, p => by
    unfold RKs at h
    subst h
    cases p
    exact .nil
  | q :: kvs, ys, ts, h, p => by
    unfold RKs at h
    obtain ⟨y, r, rfl, h1, h2⟩ := h
    cases p with
    | cons p1 p2 =>
      refine .cons ?_ (pairs_rw h2 p2)
      unfold RW
      refine ⟨_, _, rfl, .inl (.inl p1), .cons ?_ (.cons h1 .nil)⟩
      cases q.1 with
      | inl i => exact rw_int
      | inr x => exact rw_str
theorem RS.ext {H' : Hp} (h : RS T S is H) (k : ∀ b o, H b = some o → H' b = some o) : RS T S is H' ∧ Fr S is H S is H' := by
  have f : Fr S is H S is H' := ⟨⟨[], by simp⟩, fun a o e n => ⟨k a o e, n⟩, fun a o e => ⟨o, k a o e⟩⟩
  exact ⟨⟨h.len, h.inj, fun l ob a e1 e2 => RO.fr h f (fun o => k a o) (h.ob l ob a e1 e2)⟩, f⟩
/-- list(d.items()) -/
theorem e_itm {e : Expr} {bx : Bool} {p apos cpos pos : Pos} {m : Mw Wv} (hc : X.calm = true) (he : PE X e (tW T E m)) (hb : baseOk e = true) (hg : Gl X "list") (hm : X.mg "list" = none) (hl : (apos.endLine == cpos.line) = true) :
    PE X (.Call (.Name "list" p) [.Call (.Attribute e "items" apos) [] [] cpos] [] pos) (tW T E fun r S => (m r S).bind fun x S1 => match x with
      | .ref l => match S1[l]? with
        | some (.dic kvs) => newL bx (kvs.map fun p => .tup [keyW p.1, p.2]) S1
        | _ => .bad
      | _ => .bad) := by
  have h : PE X (.Call (.Name "list" p) [.Call (.Attribute e "items" apos) [] [] cpos] [] pos) (tL T E fun r S => (m r S).bind fun x S1 => match x with
      | .ref l => match S1[l]? with
        | some (.dic kvs) => .ok (kvs.map fun p => Wv.tup [keyW p.1, p.2]) S1
        | _ => .bad
      | _ => .bad) := (LiI.pe_listItems (p := p) (pos := pos) hc he hg hm (by decide +kernel) (base_ok hb) hl rfl).weak fun s H Q ⟨S, is, r, hS, hr, hp⟩ => by
    refine ⟨S, is, r, hS, hr, R.post_mono (R.post_bind hp) (fun w S1 q is1 H1 x h1 f hw => ?_) fun _ _ _ z => z⟩
    split at q
    · rename_i l
      unfold RW at hw
      obtain ⟨a, rfl, ha⟩ := hw
      split at q
      · rename_i kvs el
        obtain ⟨ys, ey, rk⟩ := h1.ob l _ a el ha
        refine ⟨a, ys, rfl, ey, fun H' p ts kp np _ _ ep pr => ?_⟩
        obtain ⟨g1, g2⟩ := h1.ext kp
        exact q is1 H' p _ g1 (f.trans g2) (fun l => (Liv.ne h1 l np) rfl) (f.free np) ep (pairs_rw (RKs.fr h1 g2 _ _ rk) pr)
      · exact q.elim
    · exact q.elim
  have z := e_new (bx := bx) h
  refine z.weak fun _ _ _ q => tW_congr q fun r S => ?_
  rw [R.bind_assoc]
  congr 1
  funext x S1
  cases x with
  | ref l =>
    dsimp only
    cases S1[l]? with
    | none => rfl
    | some ob => cases ob <;> rfl
  | _ => rfl
end
end Pe

set_option Elab.async false
set_option linter.all false
set_option maxRecDepth 100000
set_option maxHeartbeats 4000000
/-! len(set(texts)): how many different ones. -/
namespace Pe
open PySem PySem.Spec PyProof.Rows L2
section
variable {prog : Program} {w : World} {A : Around} {R : Result → Shared → Prop} {I : Addr} {fp wr : List Addr} {G : Array GenState → Array GenState → Prop} {n : Nat} {P : Nat → Value → Prop} {St : Nat → Shared → Prop}
/-- what a set of the first i texts holds -/
abbrev Held (prog : Program) (w : World) (h : Heap) (a : Addr) (xs : List Str) (i : Nat) : Prop := h.SetOf (PySem.strKind prog w) a (fun z => (xs.take i).any (· == z)) ((xs.take i).eraseDups.length)
theorem dups_snoc (xs : List Str) (x : Str) : (xs ++ [x]).eraseDups.length = if xs.any (· == x) = true then xs.eraseDups.length else xs.eraseDups.length + 1 := by
  rw [List.eraseDups_append, List.length_append]
  by_cases h : xs.any (· == x) = true
  · rw [if_pos h]
    have hx : x ∈ xs := by
      obtain ⟨y, h1, h2⟩ := List.any_eq_true.mp h
      rw [← beq_iff_eq.mp h2]; exact h1
    have : [x].removeAll xs = [] := by simp [List.removeAll, hx]
    rw [this]
    simp
  · rw [if_neg h]
    have hx : x ∉ xs := fun z => h (List.any_eq_true.mpr ⟨x, z, by simp⟩)
    have : [x].removeAll xs = [x] := by simp [List.removeAll, hx]
    rw [this]
    simp [List.eraseDups_cons]
theorem dups_le (xs : List Str) : xs.eraseDups.length ≤ xs.length := by
  have h : ∀ ys : List Str, ys.reverse.eraseDups.length ≤ ys.length := fun ys => by
    induction ys with
    | nil => simp
    | cons x ys ih =>
      rw [List.reverse_cons, dups_snoc, List.length_cons]
      split <;> omega
  have := h xs.reverse
  rw [List.reverse_reverse, List.length_reverse] at this
  exact this
theorem Held.next {h : Heap} {a : Addr} {xs : List Str} {i : Nat} (hi : i < xs.length) {n : Nat} (hn : n = if (xs.take i).any (· == xs.getD i Str.empty) = true then (xs.take i).eraseDups.length else (xs.take i).eraseDups.length + 1)
    (q : h.SetOf (PySem.strKind prog w) a (fun z => (xs.take i).any (· == z) || decide (z = xs.getD i Str.empty)) n) : Held prog w h a xs (i + 1) := by
  have e : xs.take (i + 1) = xs.take i ++ [xs.getD i Str.empty] := by
    rw [List.take_add_one, List.getElem?_eq_getElem hi]
    simp [List.getD, List.getElem?_eq_getElem hi]
  refine SetOf_congr q (fun z => ?_) (by rw [hn, e, dups_snoc])
  rw [e, List.any_append]
  congr 1
  by_cases e2 : z = xs.getD i Str.empty
  · subst e2; simp
  · have : (xs.getD i Str.empty == z) = false := by simpa [beq_iff_eq] using (fun h' : xs.getD i Str.empty = z => e2 h'.symm)
    have e3 : decide (z = xs.getD i Str.empty) = false := decide_eq_false e2
    rw [e3]
    simp only [List.any_cons, List.any_nil, this, Bool.or_false]
theorem set_loop (W : WalksS prog w A.in1 I fp wr G n P St) (S : Addr) (hSf : S ∉ fp) (xs : List Str) (hsz : xs.length = n) (hb : n + 1 < scanBound)
    (hval : ∀ i v, P i v → ∃ t, v = .str (xs.getD i Str.empty) t) :
    ∀ (k i : Nat) (s : Shared), n - i = k → i ≤ n → St i s → Held prog w s.heap S xs i →
      (∀ s', Moved (S :: wr) G s s' → Held prog w s'.heap S xs n → R (.ok (.ret .none)) s') →
      codeAny (model prog w) A (.builtin "set.update.loop" ⟨[.ref S, .ref I], []⟩) R s := by
  have nw : S ∉ wr := fun h => hSf (W.sub _ h)
  have inw : ∀ b ∈ wr, b ∈ S :: wr := fun b hb => List.mem_cons_of_mem _ hb
  have stays : ∀ {s s' : Shared} {i : Nat}, Moved wr G s s' → Held prog w s.heap S xs i → Held prog w s'.heap S xs i := fun hm ⟨o, es, ep, t, ho, rest⟩ => ⟨o, es, ep, t, hm.heap S _ nw ho, rest⟩
  intro k
  induction k with
  | zero =>
    intro i s hk hi hst hS hR
    obtain rfl : i = n := by omega
    refine codeAny_builtin PyProof.Rows.F.entry_set_update_loop ?_
    rw [Around.under_plainId PyProof.Rows.F.plain_set_update_loop _]
    show wpAny _ A.in1 (pyNext (.ref I) >>= _) _ _ s
    refine wpAny_bind (W.done s _ _ hst fun s' hm => ?_)
    show wpAny _ A.in1 (ret Value.none) _ _ s'
    exact wpAny_pure (hR s' (hm.mono inw) (stays hm hS))
  | succ k ih =>
    intro i s hk hi hst hS hR
    have hlt : i < n := by omega
    refine codeAny_builtin PyProof.Rows.F.entry_set_update_loop ?_
    rw [Around.under_plainId PyProof.Rows.F.plain_set_update_loop _]
    show wpAny _ A.in1 (pyNext (.ref I) >>= _) _ _ s
    refine wpAny_bind (W.item i s _ _ hlt hst fun v s' hP hst' hm => ?_)
    obtain ⟨t, rfl⟩ := hval i v hP
    have hS' := stays hm hS
    show wpAny _ A.in1 (holding [Value.str (xs.getD i Str.empty) t] (setAdd S (.str (xs.getD i Str.empty) t)) >>= _) _ _ s'
    refine wpAny_bind (wpAny_holding ?_)
    unfold setAdd
    refine wpAny_holding (wpAny_bind ((PySem.strKind prog w).pyHash (k := xs.getD i Str.empty) (strKind_is _ _ _ _) ?_))
    have room : (xs.take i).eraseDups.length + 1 < scanBound := by
      have h1 := dups_le (xs.take i)
      rw [List.length_take] at h1
      omega
    refine wpAny_setAddHashed_of (knd := PySem.strKind prog w) (s := { s' with toks := s'.toks + 1 }) (strKind_is _ _ _ _) rfl hS' room fun h' hsb hS2 => ?_
    have hSi : Held prog w h' S xs (i + 1) := Held.next (by omega) rfl hS2
    refine wpAny_pure ⟨plainId_quiet PyProof.Rows.F.plain_set_update_loop _, ih (i + 1) _ (by omega) hlt (W.frame _ s' _ _ hst' (Nat.le_succ _) fun b hb o e => ?_) hSi fun s2 hm2 hS3 => ?_⟩
    · rw [hsb.2 b fun z : b = S => hSf (z ▸ hb)]
      exact e
    · refine hR s2 (Moved.trans W.gtrans ((hm.mono inw).then_heap (Nat.le_succ _) fun b o hb e => ?_) hm2) hS3
      rw [hsb.2 b fun z : b = S => hb (z ▸ List.mem_cons_self)]
      exact e
end
section
variable {prog : Program} {w : World} {A : Around} {E : Value → Shared → Prop} {s : Shared}
abbrev newSet (led : Bool) : Obj := { cls := .type "set", dict := none, data := .set #[] 0 (.fresh 0 0 led) }
theorem call_set_texts {l : Addr} {items : Array Value} {xs : List Str} {Q : Value → Shared → Prop}
    (hh : A.handled = none) (hl : s.heap.IsList l items) (hi : PyProof.Rows.StrsAre items.toList xs) (hn1 : xs.length + 1 < scanBound)
    (h : ∀ (h' : Heap) (tk : Nat), Held prog w h' s.heap.objs.size xs items.size → (∀ b o, b < s.heap.objs.size → s.heap.get? b = some o → h'.get? b = some o) → Q (.ref s.heap.objs.size) { s with heap := h', toks := tk }) :
    wpAny (model prog w) A (call (.type "set") [.ref l]) Q E s := by
  obtain ⟨c, tl, hmro⟩ := PySem.F.called_set.mro
  have a1 := PySem.F.called_set.made
  have a2 := PySem.F.called_set.sub
  refine wpAny_call (codeAny_of_tree ?_)
  show wpAny _ _ (callAny (.type "set") _) _ _ _
  refine wpAny_pure ⟨Code.quiet_builtin _ (by decide +kernel), codeAny_builtin PySem.F.entry_type_call ?_⟩
  rw [Around.under_plain (weight_type_call_type "set" [.ref l] []) rfl]
  have a3 := PySem.F.called_set.notType
  have a4 := PySem.F.called_set.canCreate
  have a5 := PySem.F.typeCall_set_1 (.ref l)
  repeat (any_goals (first | assumption | wp_step))
  refine codeAny_mono (code_set_new_1 (.ref l) (E := E) (Q₁ := fun obj t => ∃ led : Bool, obj = .ref s.heap.objs.size ∧ t = { s with heap := s.heap.push (newSet led) }) fun led => ⟨led, rfl, rfl⟩) fun r t hr => ?_
  cases r with
  | error e => exact hr
  | ok fl =>
    cases fl with
    | ret obj =>
      obtain ⟨led, rfl, rfl⟩ := hr
      have hS : (s.heap.push (newSet led)).get? s.heap.objs.size = some (newSet led) := Heap.get?_push_size _ rfl
      have hT : Shared.TypeIs { s with heap := s.heap.push (newSet led) } (.ref s.heap.objs.size) "set" := ⟨_, hS, rfl⟩
      have b1 := PySem.F.called_set.init.lookup
      have b2 := PySem.F.called_set.init.bind (.ref s.heap.objs.size)
      repeat (any_goals (first | assumption | wp_step))
      refine codeAny_mono (codeAny_call_builtin (R := wants (fun r u => r = .none ∧ ∃ h' tk, u = { s with heap := h', toks := tk } ∧ Held prog w h' s.heap.objs.size xs items.size ∧ (∀ b o, b < s.heap.objs.size → s.heap.get? b = some o → h'.get? b = some o)) E) PySem.F.called_set.init.plain PySem.F.entry_set_init (check_set_init_1 hT ?_)) fun r₂ s₂ hr₂ => ?_
      · obtain ⟨⟨cl, dc, dt, sl⟩, hol, hcl, nl, hdl⟩ := hl
        simp only at hcl hdl
        subst hcl; subst hdl
        have hol' : (s.heap.push (newSet led)).get? l = some { cls := .type "list", dict := dc, data := .seq items nl, slots := sl } := Heap.get?_push_of_some _ hol
        have c1 := PySem.F.sub_list_set
        have c2 := PySem.F.sub_list_frozenset
        have c3 : (Value.type "list" == Value.type "dict") = false := by decide
        have hl1 : (s.heap.push (newSet led)).IsList l items := ⟨_, hol', rfl, nl, rfl⟩
        unfold Builtin.«set.__init__» noKeywords Builtin.Frozenset.updateFrom
        generalize hPI : pyIter = PI
        wp_walk
        subst hPI
        refine wpAny_pyIter_list hl1 (wpAny_bind (wpAny_runValue ?_))
        have hlS : l < s.heap.objs.size := Heap.lt_size hol
        have hh3 : A.in1.in1.in1.handled = none := by simp [hh]
        have d1 : l ≠ (s.heap.push (newSet led)).objs.size := by
          rw [Heap.size_push]; exact Nat.ne_of_lt (Nat.lt_succ_of_lt hlS)
        have d2 : s.heap.objs.size ∉ [(s.heap.push (newSet led)).objs.size, l] := by
          rw [Heap.size_push]
          simp only [List.mem_cons, List.mem_singleton, List.not_mem_nil, or_false, not_or]
          exact ⟨Nat.ne_of_lt (Nat.lt_succ_self _), Nat.ne_of_gt hlS⟩
        have hsz : xs.length = items.size := by rw [← StrsAre.len_eq hi, Array.length_toList]
        have hval : ∀ (i : Nat) (v : Value), items[i]? = some v → ∃ t, v = .str (xs.getD i Str.empty) t := fun i v hv => SS.strs_at hi i v (by rw [Array.getElem?_toList]; exact hv)
        refine set_loop ((Walks.list hh3 _ l d1 items).toS) s.heap.objs.size d2 xs hsz (by rw [← hsz]; exact hn1) hval (items.size - 0) 0 _ (by omega) (Nat.zero_le _) ⟨⟨_, Heap.get?_push_size _ rfl, rfl, rfl⟩, (hl1.push _)⟩ ?hS0 ?hR
        case hS0 =>
          have hget : ((s.heap.push (newSet led)).push { cls := .type "list_iterator", data := .fields #[.ref l, .int 0 0] }).get? s.heap.objs.size = some (newSet led) := Heap.get?_push_of_some _ hS
          exact SetOf_congr ((PyProof.Rows.setObjOf_fresh (knd := PySem.strKind prog w) led).setOf hget (by unfold scanBound; omega)) (fun _ => rfl) rfl
        case hR =>
          intro s' hm hS'
          obtain ⟨h', g', d', tk', os'⟩ := s'
          cases (show g' = s.gens from hm.gens)
          cases (show d' = s.drawn from hm.drawn)
          cases (show os' = s.os from hm.os)
          show wpAny _ _ _ _ _ _
          refine wpAny_pure ?_
          show wpAny _ _ (ret Value.none) _ _ _
          refine wpAny_pure ⟨rfl, h', tk', rfl, hS', fun b o hb e => ?_⟩
          have e1 : b ≠ s.heap.objs.size := Nat.ne_of_lt hb
          have e2 : b ≠ (s.heap.push (newSet led)).objs.size := by
            rw [Heap.size_push]
            exact Nat.ne_of_lt (Nat.lt_succ_of_lt hb)
          exact hm.heap b o (by simp only [List.mem_cons, List.mem_singleton, List.not_mem_nil, or_false, not_or]; exact ⟨e1, e2⟩) (Heap.get?_push_of_some _ (Heap.get?_push_of_some _ e))
      · cases r₂ with
        | error e => exact hr₂
        | ok fl₂ =>
          cases fl₂ with
          | ret r =>
            obtain ⟨rfl, h', tk, rfl, hS', hk'⟩ := hr₂
            repeat (any_goals (first | assumption | wp_step))
            exact h _ _ hS' hk'
          | _ => exact hr₂.elim
    | _ => exact hr.elim
end
section
variable {X : Cx} {T : Tb} {E : XK}
/-- len(set(xs)) -/
theorem e_lenset {a : Expr} {p p2 q pos : Pos} {m : Mw Wv} (hc : X.calm = true) (hK : X.K = T.K) (hg : Gl X "len") (hm : X.mg "len" = none) (hg2 : Gl X "set") (hm2 : X.mg "set" = none) (ha : PE X a (tW T E m)) (hs : notStar a = true) :
    PE X (.Call (.Name "len" p) [.Call (.Name "set" p2) [a] [] q] [] pos) (tW T E fun r S => (m r S).bind fun x S1 => R.of (pr1 .lenset S1 x) S1) := by
  have na := star_ok (env := X.env) (es := []) hs
  refine ⟨fun pins s σ H Q I h => ?_⟩
  refine Call_ (ld_blt I hg hm boot_len ?_)
  refine PyProof.Rows.callWith_builtin1 (PyProof.Rows.args_cons ?_ rfl) rfl rfl
  refine Call_ (ld_blt I hg2 hm2 boot_set ?_)
  refine PyProof.Rows.callWith_type1 (PyProof.Rows.args_cons (thn (ha.run pins s σ H _ I (tW_1 (g := fun x S1 => R.of (pr1 .lenset S1 x) S1) h)) fun v s1 ⟨x, H1, I1, r1, S, is, wx, hS, hw, hp⟩ => PyProof.Rows.args_nil ?_) na) na rfl
  obtain ⟨y, e, q1⟩ := R.post_of hp
  have va := hS.view hw
  unfold pr1 at e
  dsimp only at e
  split at e
  · rename_i xs ev
    rw [ev] at va
    split at e
    · rename_i hl
      obtain ⟨t, et, rfl⟩ := Option.map_eq_some_iff.mp e
      obtain ⟨l, ys, rfl, hq, rr⟩ := va.lst
      cases r1
      obtain ⟨its, r, pl, hz⟩ := I1.list (a := l) (xs := ys) (.inl hq)
      have ety : ys = t.map V.str := strs_of et rr
      subst ety
      have hlen : t.length = xs.length := by rw [rr.length, List.length_map]
      have sz : its.toArray.size = t.length := by rw [List.size_toArray, ← r.length, List.length_map]
      refine call_set_texts (I1.ok.hd hc) pl.isList (by simpa using strsAre_of r) (by unfold scanBound; omega) fun h' tk hS' hk => PyProof.Rows.args_nil ?_
      rw [sz] at hS'
      have hS2 : Held X.prog X.w h' s1.heap.objs.size t t.length := hS'
      obtain ⟨o, es, ep, tt, ho, hex, hd, _, _, _, hf, hn⟩ := hS2
      have I2 : Inv X pins σ H1 { s1 with heap := h', toks := tk } := I1.kept fun b o e => hk b o (Heap.lt_size e) e
      rw [List.take_length] at hn
      have hd2 := dups_le t
      refine call_len_set ho hex hd hf (by rw [hn] <;> omega) ⟨.int (lenSet t), H1, I2.tok _, ⟨_, by rw [hn] <;> rfl⟩, q1 is H1 _ hS .rfl' rw_int⟩
    · cases e
  · cases e
end
end Pe

set_option Elab.async false
set_option linter.all false
set_option maxRecDepth 100000
/-! match: what a pattern does. -/
namespace Pe
open PySem PySem.Spec PyProof.Rows L2
variable {T : Tb} {E : XK} {X : Cx} {S S1 S2 : Sto} {is is1 is2 : List Addr} {H H1 H2 : Hp} {s : L2.St} {P : Pg} {Fn : Fo}
/-- the cases of a match, behind its subject -/
structure MCs (T : Tb) (E : XK) (X : Cx) (cs : List MatchCase) (i : Nat) (m : Mf) : Prop where
  run : ∀ (pins : List (Addr × Obj)) (sh : Shared) (σ : L2.St) (H : Hp) (D : Ends) (first : Bool) (S : Sto) (is : List Addr) (r : Ev) (w : Wv) (v : V) (u : Value), Inv X pins σ H sh → RS T S is H → RE T is H r σ → r[i]? = some w → w ≠ .unb → RW T is H w v → RelV v u →
    (m r S).post (qS T S is H D) (qX T E S is H) → wpAny (model X.prog X.w) X.A (matchCases cs X.env u first) (SP X pins D) X.xe sh
theorem mc_nil {i : Nat} : MCs T E X [] i (fun r S => .ok (.nx r) S) := ⟨fun pins sh σ H D first S is r w v u I hS hr hi nu hw rv hp => wpAny_matchCases_nil ⟨σ, H, I, hp is H hS .rfl' σ hr⟩⟩
/-- what a pattern binds -/
abbrev Bnds := Option (List (Str × Value))
/-- a pattern's end -/
def PatQ (T : Tb) (X : Cx) (is : List Addr) (H : Hp) (r : Ev) : Option Ev → Bnds → Prop
  | none, none => True
  | some r', some bs => (bs = [] ∧ r' = r) ∨ ∃ (j : Nat) (nm : Str) (w' : Wv) (v' : V) (u' : Value), bs = [(nm, u')] ∧ X.N[j]? = some nm ∧ Loc X.env.scope nm ∧ (X.fn nm = true ∨ X.env.scope.names.lookup nm = some .local) ∧ RW T is H w' v' ∧ RelV v' u' ∧ r' = r.set j w'
  | _, _ => False
/-- a pattern, run -/
def PatR (T : Tb) (X : Cx) (pat : Pattern) (p : Pt) : Prop := ∀ (pins : List (Addr × Obj)) (sh : Shared) (σ : L2.St) (H : Hp) (S : Sto) (is : List Addr) (r : Ev) (w : Wv) (v : V) (u : Value) (o : Option Ev), Inv X pins σ H sh → RS T S is H → RE T is H r σ → w ≠ .unb → RW T is H w v → RelV v u → matP S p w r = some o →
  wpAny (model X.prog X.w) X.A (matchPattern pat X.env u) (fun b s' => Inv X pins σ H s' ∧ PatQ T X is H r o b) X.xe sh
theorem pat_wild {pos : Pos} : PatR T X (.MatchAs none none pos) .wild := fun pins sh σ H S is r w v u o I hS hr nu hw rv e => by
  cases e
  exact wpAny_matchPattern_Capture ⟨I, .inl ⟨rfl, rfl⟩⟩
/-- a written text against a value -/
theorem pat_str (hK : X.K = T.K) (hu : X.A.units + 200 < cLine) {x : Str} {kk : Nat} {pos pos2 : Pos} {pins : List (Addr × Obj)} {sh : Shared} {σ : L2.St} {w : Wv} {v : V} {u : Value} {k : Bool} {Q : Bnds → Shared → Prop} (I : Inv X pins σ H sh) (hS : RS T S is H) (hw : RW T is H w v) (rv : RelV v u) (e : eqW S w (.str x) = some k)
    (h : ∀ s', Inv X pins σ H s' → Q (if k = true then some [] else none) s') : wpAny (model X.prog X.w) X.A (matchPattern (.MatchValue (.Constant (.str x) kk pos) pos2) X.env u) Q X.xe sh := by
  refine wpAny_matchPattern_Value (thn ((pe_str (X := X)).run pins sh σ H (fun y H1 => y = .str x ∧ H1 = H) I ⟨rfl, rfl⟩) fun y s1 ⟨vy, H1, I1, ry, ey, eh⟩ => ?_)
  subst ey eh
  refine (eqW_run hK hu I1 rv ry hS hw (show RW T is H1 (.str x) (.str x) by unfold RW; rfl) e).1 ?_
  refine wpAny_truthy_bool ?_
  cases k with
  | true => rw [if_pos rfl]; exact h s1 I1
  | false => rw [if_neg Bool.false_ne_true]; exact h s1 I1
theorem pat_lit (hK : X.K = T.K) (hu : X.A.units + 200 < cLine) {x : Str} {kk : Nat} {pos pos2 : Pos} : PatR T X (.MatchValue (.Constant (.str x) kk pos) pos2) (.lit x) := fun pins sh σ H S is r w v u o I hS hr nu hw rv e => by
  obtain ⟨k, e1, rfl⟩ := Option.map_eq_some_iff.mp (show (eqW S w (.str x)).map (fun b => if b = true then some r else none) = some o from e)
  refine pat_str hK hu I hS hw rv e1 fun s' I' => ⟨I', ?_⟩
  cases k with
  | true => exact .inl ⟨rfl, rfl⟩
  | false => trivial
theorem pat_pair (hK : X.K = T.K) (hu : X.A.units + 200 < cLine) (hc : X.calm = true) {x nm : Str} {kk j : Nat} {pos pos2 pos3 pos4 : Pos} (hj : X.N[j]? = some nm) (hl : Loc X.env.scope nm) (hf : X.fn nm = true ∨ X.env.scope.names.lookup nm = some .local) :
    PatR T X (.MatchSequence [.MatchValue (.Constant (.str x) kk pos) pos2, .MatchAs none (some nm) pos3] pos4) (.pair x j) := fun pins sh σ H S is r w v u o I hS hr nu hw rv e => by
  have tup : ∀ xs, w = .tup xs → ∃ (a : Addr) (ys : List V) (its : List Value), u = .ref a ∧ RWs T is H xs ys ∧ Vals ys its ∧ IsTup sh.heap a its.toArray ∧ its.length ≤ sizeLine := fun xs ew => by
    subst ew
    unfold RW at hw
    obtain ⟨a, ys, rfl, h1, h2⟩ := hw
    cases rv
    obtain ⟨its, r1, h3, h4⟩ := I.tuple (hK ▸ h1)
    exact ⟨a, ys, its, rfl, h2, r1, h3, by rw [← r1.length]; exact h4⟩
  have miss : ∀ xs, w = .tup xs → xs.length ≠ 2 → o = none → wpAny (model X.prog X.w) X.A (matchPattern (.MatchSequence [.MatchValue (.Constant (.str x) kk pos) pos2, .MatchAs none (some nm) pos3] pos4) X.env u) (fun b s' => Inv X pins σ H s' ∧ PatQ T X is H r o b) X.xe sh := fun xs ew hn ho => by
    obtain ⟨a, ys, its, rfl, h2, r1, h3, h4⟩ := tup xs ew
    subst ho
    refine matchSeq_tuple_miss h3 (by rw [List.size_toArray]; have : sizeLine < 2 ^ 63 := by decide
                                      omega) (by rw [List.size_toArray, ← r1.length, ← h2.length]; exact hn) ⟨I.tok _, trivial⟩
  unfold matP at e
  dsimp only at e
  split at e
  · cases e
    obtain rfl := RW.inj_str hw
    obtain ⟨t, rfl⟩ := rv
    refine wpAny_matchPattern_Sequence (wpAny_collectionFlag (T := "str") (b := false) ?_ flag_seq_str ?_)
    · first | rfl | trivial | exact ⟨_, rfl⟩
    · rw [if_neg Bool.false_ne_true]
      exact ⟨I, trivial⟩
  · rename_i a b
    obtain ⟨k, e1, e2⟩ := Option.bind_eq_some_iff.mp e
    obtain ⟨ad, ys, its, rfl, h2, r1, h3, h4⟩ := tup _ rfl
    obtain ⟨y1, t1, rfl, q1, q2⟩ := (show ∃ y t, ys = y :: t ∧ RW T is H a y ∧ RWs T is H [b] t by unfold RWs at h2; exact h2)
    obtain ⟨y2, t2, rfl, q3, q4⟩ := (show ∃ y t, t1 = y :: t ∧ RW T is H b y ∧ RWs T is H [] t by unfold RWs at q2; exact q2)
    unfold RWs at q4
    subst q4
    cases r1
    rename_i u1 us1 rv1 r2
    cases r2
    rename_i u2 us2 rv2 r3
    cases r3
    refine matchSeq_tuple_hit h3 (by simp) rfl ?_
    refine unpackItems_tuple (I.ok.hd hc) (items := #[u1, u2]) h3 fun h' hx => ?_
    have I1 : Inv X pins σ H { sh with heap := h', toks := sh.toks + 1 + 1 } := I.kept (t' := sh.toks + 1 + 1) fun b o e => hx b o (Nat.ne_of_lt (Heap.lt_size e)) e
    refine wpAny_matchEach_cons (pat_str hK hu I1 hS q1 rv1 e1 fun s2 I2 => ?_)
    cases k with
    | false =>
      rw [if_neg Bool.false_ne_true] at e2
      cases e2
      rw [if_neg Bool.false_ne_true]
      exact ⟨I2, trivial⟩
    | true =>
      rw [if_pos rfl] at e2
      split at e2
      · cases e2
        rw [if_pos rfl]
        refine wpAny_matchEach_cons (wpAny_matchPattern_Capture (wpAny_matchEach_nil ⟨I2, .inr ⟨j, nm, b, y2, u2, rfl, hj, hl, hf, q3, rv2, rfl⟩⟩))
      · cases e2
  · rename_i xs nx
    split at e
    · cases e
    · rename_i hn
      cases e
      exact miss _ rfl hn rfl
  · cases e
theorem mc_cons (nd : X.N.Nodup) {pat : Pattern} {p : Pt} {b : List Stmt} {cs : List MatchCase} {i : Nat} {ma mb : Mf} (hp : PatR T X pat p) (ha : PSs X b (tSt T E ma)) (hb : MCs T E X cs i mb) :
    MCs T E X (⟨pat, none, b⟩ :: cs) i (fun r S => (getV r i S).bind fun w S1 => match matP S1 p w r with
      | none => .bad
      | some none => mb r S1
      | some (some r') => ma r' S1) := ⟨fun pins sh σ H D first S is r w v u I hS hr hi nu hw rv hq => by
  have g : getV r i S = .ok w S := by
    unfold getV
    rw [hi]
    cases w <;> first | rfl | exact absurd rfl nu
  rw [g, R.bind_ok] at hq
  split at hq
  · exact hq.elim
  · rename_i e
    refine wpAny_matchCases_cons (thn (hp pins sh σ H S is r w v u none I hS hr nu hw rv e) fun bs s1 ⟨I1, q⟩ => ?_)
    cases bs with
    | some bs => exact q.elim
    | none => exact hb.run pins s1 σ H D false S is r w v u I1 hS hr hi nu hw rv hq
  · rename_i r' e
    refine wpAny_matchCases_cons (thn (hp pins sh σ H S is r w v u (some r') I hS hr nu hw rv e) fun bs s1 ⟨I1, q⟩ => ?_)
    cases bs with
    | none => exact q.elim
    | some bs =>
      rcases q with ⟨rfl, rfl⟩ | ⟨j, nm, w', v', u', rfl, h1, h2, h3, h4, h5, rfl⟩
      · exact wpAny_assignInOrder_none (ha.run pins s1 σ H D I1 ⟨S, is, r', hS, hr, hq⟩)
      · exact wpAny_assignInOrder_more (wpAny_bindName (store_ok I1 nd h1 h2 h5 (fun s2 I2 => wpAny_assignInOrder_none (ha.run pins s2 _ H D I2 ⟨S, is, _, hS, hr.set h4, hq⟩)) h3))⟩
theorem mc_to {cs : List MatchCase} {i : Nat} {m m' : Mf} (h : MCs T E X cs i m) (q : ∀ r S, m' r S = m r S) : MCs T E X cs i m' := ⟨fun pins sh σ H D first S is r w v u I hS hr hi nu hw rv hp => h.run pins sh σ H D first S is r w v u I hS hr hi nu hw rv (by rw [← q]; exact hp)⟩
/-- match x: .. -/
theorem s_mat {x : Str} {p pos : Pos} {cs : List MatchCase} {i : Nat} {k : Ev → Wv → Sto → R Fl} (hv : PE X (.Name x p) (tW T E fun r S => getV r i S)) (hc : MCs T E X cs i fun r S => (getV r i S).bind (k r)) :
    PS X (.Match (.Name x p) cs pos) (tSt T E fun r S => (getV r i S).bind (k r)) := ⟨fun pins sh σ H D I ⟨S, is, r, hS, hr, hp⟩ => by
  dsimp only at hp
  cases e : r[i]? with
  | none =>
    unfold getV at hp
    rw [e] at hp
    exact hp.elim
  | some w =>
    by_cases nu : w = .unb
    · subst nu
      unfold getV at hp
      rw [e] at hp
      exact hp.elim
    · have g : getV r i S = .ok w S := by
        unfold getV
        rw [e]
        cases w <;> first | rfl | exact absurd rfl nu
      refine wpAny_Match (thn (hv.run pins sh σ H (fun y H1 => ∃ is1, RS T S is1 H1 ∧ Fr S is H S is1 H1 ∧ RW T is1 H1 w y) I ⟨S, is, r, hS, hr, ?_⟩) fun u s1 ⟨v, H1, I1, rv, is1, h1, f1, hw⟩ => ?_)
      · dsimp only
        rw [g]
        exact fun is' H' v h1 f1 hw => ⟨is', h1, f1, hw⟩
      · exact hc.run pins s1 σ H1 D true S is1 r w v u I1 h1 (hr.fr hS f1) e nu hw rv (R.post_mono hp (fun _ _ z => z.fr f1) fun _ _ _ z => z.fr f1)⟩
/-- (*a, e, ..) -/
theorem e_stp (hK : X.K = T.K) {a : Expr} {es : List Expr} {p pos : Pos} {kk : Nat} {ma : Mw Wv} {ms : Mw (List Wv)} (ha : PE X a (tW T E ma)) (hs : PA X es (tWs T E ms)) :
    PE X (.Tuple (.Starred a p :: es) kk pos) (tW T E fun r S => (ma r S).bind fun x S1 => match x with
      | .tup xs => (ms r S1).bind fun ys S2 => if (xs ++ ys).length ≤ line then .ok (.tup (xs ++ ys)) S2 else .bad
      | _ => .bad) := (pe_tup (StX.pa_star (p := p) ha hs)).weak fun s H Q h => by
  refine tW_mono (tW_seq (k := fun r x S1 => match x with
      | .tup xs => (ms r S1).bind fun ys S2 => if (xs ++ ys).length ≤ line then .ok (.tup (xs ++ ys)) S2 else .bad
      | _ => .bad) h) fun x H1 ⟨S1, is1, r, w, h1, hr, hw, hp⟩ => ?_
  dsimp only at hp
  split at hp
  · rename_i xs
    unfold RW at hw
    obtain ⟨ad, ys, rfl, q1, q2⟩ := hw
    refine ⟨ad, ys, rfl, .inl (hK ▸ q1), S1, is1, r, h1, hr, R.post_mono (R.post_bind hp) (fun zs S2 q is2 H2 us h2 f2 hz => ?_) fun _ _ _ z => z⟩
    split at q
    · rename_i hl
      have hxs := RWs.fr h1 f2 xs ys q2
      refine ⟨?_, fun pp np => ?_⟩
      · rw [List.length_append, ← hxs.length, ← hz.length, ← List.length_append]
        exact hl
      · exact q is2 _ _ (h2.new np) (f2.trans (.new h2 np)) (.tup_new h2 np (hxs.append hz))
    · exact q.elim
  · exact hp.elim
end Pe

set_option Elab.async false
set_option linter.all false
set_option maxRecDepth 100000
/-! Does the core text stand for the program's text? A check that is computed. -/
namespace Pe
open PySem PySem.Spec PyProof.Rows L2

/-- the names of the module that the core text goes by -/
structure Ge where
  blts : List Str
  fns : List (Str × Nat)
  con : List (Str × Wv)
  an : List Str
  kws : List (Nat × List Str × List Nat)
def bopB : BOp → Operator → Bool
  | .add, .Add => true
  | .sub, .Sub => true
  | .mul, .Mult => true
  | .mod, .Mod => true
  | .fdiv, .FloorDiv => true
  | .pow, .Pow => true
  | _, _ => false
def copB : COp → CmpOp → Bool
  | .eq, .Eq => true
  | .ne, .NotEq => true
  | .lt, .Lt => true
  | .le, .LtE => true
  | .gt, .Gt => true
  | .ge, .GtE => true
  | .isin, .In => true
  | .notin, .NotIn => true
  | .is, .Is => true
  | .isnot, .IsNot => true
  | _, _ => false
def okName (x : Str) : Bool := !(x == ("__debug__" : Str)) && !(x == ("__classdict__" : Str))
def visB (sc : Scope) (x : Str) : Bool := sc.names.lookup x == some .local || sc.names.lookup x == some .cell || sc.names.lookup x == some .free
def glB (sc : Scope) (x : Str) : Bool := sc.names.lookup x == some .globalImplicit
def bltB (G : Ge) (sc : Scope) (x : Str) : Bool := glB sc x && G.blts.contains x
def p1N : P1 → Option Str
  | .len => some "len"
  | .abs => some "abs"
  | .all => some "all"
  | .any => some "any"
  | .sum => some "sum"
  | .tuple => some "tuple"
  | .repr => some "repr"
  | .str => some "str"
  | .int => some "int"
  | .bool => some "bool"
  | _ => none
def p2N : P2 → Str
  | .max => "max"
  | .min => "min"
def tyB (G : Ge) (sc : Scope) (t : Ty) (x : Str) : Bool := (match t with
  | .own _ => false
  | _ => true) && x == Str.ofString t.nm && bltB G sc x
def tysB (G : Ge) (sc : Scope) : List Ty → List Expr → Bool
  | [], [] => true
  | t :: ts, .Name x _ :: es => tyB G sc t x && tysB G sc ts es
  | _, _ => false
/-- a constant: written, or of the module -/
def conB (G : Ge) (sc : Scope) (w : Wv) : Expr → Bool
  | .Constant (.int i) _ _ => same w (.int i)
  | .Constant (.bool b) _ _ => same w (.bl b)
  | .Constant (.str x) _ _ => same w (.str x)
  | .Constant .none _ _ => same w .non
  | .Name x _ => glB sc x && okName x && (match G.con.lookup x with
    | some u => same w u
    | none => false)
  | _ => false
def storeB (N : List Str) (sc : Scope) (co : List Str) (i : Nat) (x : Str) : Bool := N[i]? == some x && (sc.names.lookup x == some .local || (sc.names.lookup x == some .cell && co.contains x))
mutual
def chkG (N : List Str) (sc : Scope) (co : List Str) : Tg → Expr → Bool
  | .nm i, e => match e with
    | .Name x _ => storeB N sc co i x
    | _ => false
  | .tp ts, e => match e with
    | .Tuple es _ _ => es.all notStar && chkGs N sc co ts es
    | _ => false
def chkGs (N : List Str) (sc : Scope) (co : List Str) : List Tg → List Expr → Bool
  | [], es => match es with
    | [] => true
    | _ => false
  | t :: ts, es => match es with
    | e :: es => chkG N sc co t e && chkGs N sc co ts es
    | [] => false
end
def patB (N : List Str) (sc : Scope) (co : List Str) (p : Pt) (pat : Pattern) : Bool := match p, pat with
  | .wild, .MatchAs none none _ => true
  | .lit x, .MatchValue (.Constant (.str y) _ _) _ => x == y
  | .pair x j, .MatchSequence [.MatchValue (.Constant (.str y) _ _) _, .MatchAs none (some nm) _] _ => x == y && storeB N sc co j nm
  | _, _ => false
def ownOf (N : List Str) (own : List Nat) : List (Str × Nat) := own.filterMap fun i => N[i]?.map fun x => (x, i)
/-- the scope of a block within another -/
def relS (sc scope : Scope) : Scope := { scope with names := scope.names.map fun (n, k) => if (k == .free && sc.kind == .function && sc.names.lookup n == some .cell) then (n, .cell) else (n, k) }
def blkB (N : List Str) (sc scope : Scope) (own : List Nat) : Bool :=
  (ownOf N own).map (·.2) == own && scope.kind == .function && (scope.names.all fun y => scope.names.lookup y.1 == some y.2)
    && (scope.names.all fun y => !(y.2 == .free) || sc.names.lookup y.1 == some .cell || sc.names.lookup y.1 == some .free)
    && (scope.names.all fun y => !(y.2 == .local || y.2 == .cell) || ((ownOf N own).map (·.1)).contains y.1 || !N.contains y.1)
def notSet : Expr → Bool
  | .Set .. => false
  | _ => true
mutual
/-- a core text that can stand as a test -/
def testC : C → Bool
  | .ite .. => false
  | .not a => testC a
  | .and es => testCs es
  | .or es => testCs es
  | .frz _ => false
  | _ => true
def testCs : List C → Bool
  | [] => true
  | c :: cs => testC c && testCs cs
end
mutual
def chkE (G : Ge) (P : Pg) (N : List Str) : Scope → List Str → C → Expr → Bool
  | sc, _, .v i, e => match e with
    | .Name x _ => N[i]? == some x && visB sc x && okName x
    | _ => false
  | sc, _, .k w, e => conB G sc w e
  | sc, co, .bin o a b, e => match e with
    | .BinOp x op y _ => bopB o op && chkE G P N sc co a x && chkE G P N sc co b y
    | _ => false
  | sc, co, .cmp o a b, e => match e with
    | .Compare x [op] [y] _ => copB o op && !behindInMarks op y && chkE G P N sc co a x && chkE G P N sc co b y
    | _ => false
  | sc, co, .cmp2 o p a b c, e => match e with
    | .Compare x [op, op'] [y, z] _ => copB o op && copB p op' && !lastMarks [op, op'] [y, z] && chkE G P N sc co a x && chkE G P N sc co b y && chkE G P N sc co c z
    | _ => false
  | sc, co, .not a, e => match e with
    | .UnaryOp .Not x _ => chkE G P N sc co a x
    | _ => false
  | sc, co, .and es, e => match e with
    | .BoolOp .And xs _ => !xs.isEmpty && chkEs G P N sc co es xs
    | _ => false
  | sc, co, .or es, e => match e with
    | .BoolOp .Or xs _ => !xs.isEmpty && chkEs G P N sc co es xs
    | _ => false
  | sc, co, .neg a, e => match e with
    | .UnaryOp .USub x _ => chkE G P N sc co a x
    | _ => false
  | sc, co, .ite t a b, e => match e with
    | .IfExp t' x y _ => testC t && chkE G P N sc co t t' && chkE G P N sc co a x && chkE G P N sc co b y
    | _ => false
  | sc, co, .tup es, e => match e with
    | .Tuple xs _ _ => xs.all notStar && chkEs G P N sc co es xs
    | _ => false
  | sc, co, .dsp _ es, e => match e with
    | .List xs _ => xs.all notStar && chkEs G P N sc co es xs
    | _ => false
  | sc, co, .lc _ own g it cond c, e => match e with
    | .ListComp elt [⟨tg, iter, ifs, 0⟩] scope _ => blkB N sc scope own && notSet iter && (slotsG g).all own.contains && chkI G P N sc co it tg iter && chkG N (relS sc scope) (cellsOf scope) g tg && ifs.length ≤ 1 && testCs cond && chkEs G P N (relS sc scope) (cellsOf scope) cond ifs && chkE G P N (relS sc scope) (cellsOf scope) c elt
    | _ => false
  | sc, co, .lst _ a, e => match e with
    | .Call (.Name x _) [y] [] _ => x == "list" && bltB G sc x && notStar y && chkE G P N sc co a y
    | _ => false
  | sc, co, .srt _ a, e => match e with
    | .Call (.Name x _) [y] [] _ => x == "sorted" && bltB G sc x && notStar y && chkE G P N sc co a y
    | _ => false
  | sc, co, .idx a i, e => match e with
    | .Subscript x y _ => plainIxB y && chkE G P N sc co a x && chkE G P N sc co i y
    | _ => false
  | sc, co, .slc a lo hi, e => match e with
    | .Subscript x (.Slice l h none _) _ => chkE G P N sc co a x && chkO G P N sc co lo l && chkO G P N sc co hi h
    | _ => false
  | sc, co, .rev _ a, e => match e with
    | .Subscript x (.Slice none none (some (.UnaryOp .USub (.Constant (.int 1) _ _) _)) _) _ => chkE G P N sc co a x
    | _ => false
  | sc, co, .p1 p a, e => match p with
    | .lenset => match e with
      | .Call (.Name x _) [.Call (.Name y _) [z] [] _] [] _ => x == "len" && bltB G sc x && y == "set" && bltB G sc y && notStar z && chkE G P N sc co a z
      | _ => false
    | .upper => match e with
      | .Call (.Attribute o m apos) [] [] pos => m == "upper" && baseOk o && apos.endLine == pos.line && chkE G P N sc co a o
      | _ => false
    | p => match e with
      | .Call (.Name x _) [y] [] _ => p1N p == some x && bltB G sc x && notStar y && chkE G P N sc co a y
      | _ => false
  | sc, co, .p2 p a b, e => match e with
    | .Call (.Name x _) [y, z] [] _ => x == p2N p && bltB G sc x && notStar y && notStar z && chkE G P N sc co a y && chkE G P N sc co b z
    | _ => false
  | sc, co, .jn a b, e => match e with
    | .Call (.Attribute o m apos) [y] [] pos => m == "join" && baseOk o && apos.endLine == pos.line && notStar y && chkE G P N sc co a o && chkE G P N sc co b y
    | _ => false
  | sc, co, .isi a ts, e => match e with
    | .Call (.Name x _) [y, .Name z _] [] _ => x == "isinstance" && bltB G sc x && notStar y && chkE G P N sc co a y && (match ts with
      | [t] => tyB G sc t z
      | _ => false)
    | .Call (.Name x _) [y, .Tuple zs _ _] [] _ => x == "isinstance" && bltB G sc x && notStar y && chkE G P N sc co a y && !ts.isEmpty && ts.length ≤ 64 && tysB G sc ts zs
    | _ => false
  | sc, co, .mut m o as, e => match e with
    | .Call (.Attribute x nm apos) ys [] pos => nm == m.nm && baseOk x && apos.endLine == pos.line && ys.all notStar && ys.length < 29 && chkE G P N sc co o x && chkEs G P N sc co as ys
    | _ => false
  | sc, co, .frz a, e => chkE G P N sc co a e
  | sc, co, .att o f, e => match e with
    | .Attribute x nm _ => G.an[f]? == some nm && baseOk x && chkE G P N sc co o x
    | _ => false
  | sc, co, .fn f es, e => match e with
    | .Call (.Name x _) ys [] _ => glB sc x && okName x && G.fns.lookup x == some f && ys.all notStar && chkEs G P N sc co es ys
    | _ => false
  | sc, co, .fnk f es ks perm, e => match e with
    | .Call (.Name x _) [] kws _ => glB sc x && okName x && G.fns.lookup x == some f && es.isEmpty && (match kwNames kws with
      | some ns => G.kws.contains (f, ns, perm)
      | none => false) && chkKs G P N sc co ks kws
    | _ => false
  | sc, co, .mth m o es, e => match e with
    | .Call (.Attribute x nm apos) ys [] pos => G.an[m]? == some nm && baseOk x && apos.endLine == pos.line && ys.all notStar && ys.length < 29 && chkE G P N sc co o x && chkEs G P N sc co es ys
    | _ => false
  | sc, co, .cm c m es, e => match e with
    | .Call (.Attribute x nm apos) ys [] pos => G.an[m]? == some nm && baseOk x && apos.endLine == pos.line && ys.all notStar && ys.length < 29 && !ys.isEmpty && (P.cmet c m).isSome && conB G sc (.cls c) x && chkEs G P N sc co es ys
    | _ => false
  | sc, co, .new c, e => match e with
    | .Call (.Name x p) [] [] _ => chkE G P N sc co c (.Name x p)
    | _ => false
  | _, _, .dnew, e => match e with
    | .Dict [] [] _ => true
    | _ => false
  | sc, co, .itm _ a, e => match e with
    | .Call (.Name x _) [.Call (.Attribute o m apos) [] [] cpos] [] _ => x == "list" && bltB G sc x && m == "items" && baseOk o && apos.endLine == cpos.line && chkE G P N sc co a o
    | _ => false
  | sc, co, .stp a es, e => match e with
    | .Tuple (.Starred x _ :: ys) _ _ => ys.all notStar && chkE G P N sc co a x && chkEs G P N sc co es ys
    | _ => false
def chkEs (G : Ge) (P : Pg) (N : List Str) : Scope → List Str → List C → List Expr → Bool
  | _, _, [], es => es.isEmpty
  | sc, co, c :: cs, es => match es with
    | e :: es => chkE G P N sc co c e && chkEs G P N sc co cs es
    | [] => false
def chkKs (G : Ge) (P : Pg) (N : List Str) : Scope → List Str → List C → List Keyword → Bool
  | _, _, [], es => es.isEmpty
  | sc, co, c :: cs, es => match es with
    | ⟨_, e, _⟩ :: es => chkE G P N sc co c e && chkKs G P N sc co cs es
    | [] => false
def chkO (G : Ge) (P : Pg) (N : List Str) : Scope → List Str → Option C → Option Expr → Bool
  | _, _, none, e => e.isNone
  | sc, co, some c, e => match e with
    | some e => chkE G P N sc co c e
    | none => false
def chkI (G : Ge) (P : Pg) (N : List Str) : Scope → List Str → Ic → Expr → Expr → Bool
  | sc, co, .rng es, _, e => match e with
    | .Call (.Name x _) [y] [] _ => x == "range" && bltB G sc x && notStar y && chkEs G P N sc co es [y]
    | _ => false
  | sc, co, .enm a, tg, e => match e with
    | .Call (.Name x _) [y] [] _ => x == "enumerate" && bltB G sc x && notStar y && chkE G P N sc co a y && (match tg with
      | .Tuple .. => true
      | _ => false)
    | _ => false
  | sc, co, .any c, _, e => chkE G P N sc co c e
end
end Pe

set_option Elab.async false
set_option linter.all false
set_option maxRecDepth 100000
/-! The check is sound: expressions. -/
namespace Pe
open PySem PySem.Spec PyProof.Rows L2
variable {T : Tb} {X : Cx} {P : Pg} {CX : CXT} {k : Nat} {TD : Nat → Option Dd} {G : Ge} {N : List Str}

/-- what the check leans on -/
structure Gok (T : Tb) (P : Pg) (TD : Nat → Option Dd) (G : Ge) (mg : Str → Option Value) : Prop where
  blt : ∀ x ∈ G.blts, mg x = none
  fn : ∀ x i, G.fns.lookup x = some i → ∃ d, TD i = some d ∧ mg x = some (.ref d.f)
  con : ∀ x w, G.con.lookup x = some w → ∃ v u, mg x = some u ∧ RelV v u ∧ ∀ is H, RW T is H w v
  an : ∀ i x, G.an[i]? = some x → T.an i = x
  kw : ∀ i ks perm, (i, ks, perm) ∈ G.kws → (∀ d, TD i = some d → KwOk d 0 ks perm) ∧ ∀ e, P.fn i = some e → e.kw = false
  mt : MtOk T P TD
  cm : CmOk T P TD
/-- the context that the check is for -/
structure Cok (T : Tb) (P : Pg) (TD : Nat → Option Dd) (G : Ge) (CX : CXT) (k : Nat) (N : List Str) (sc : Scope) (co : List Str) (X : Cx) (E : XK) : Prop where
  W : Wk T P TD CX co X E k
  g : Gok T P TD G X.mg
  sc : X.env.scope = sc
  n : X.N = N
section
variable {E : XK} {sc : Scope} {co : List Str}
theorem eq_of {a b : Str} (h : (a == b) = true) : a = b := beq_iff_eq.mp h
theorem ok_name {x : Str} (h : okName x = true) : (x == ("__debug__" : Str)) = false ∧ (x == ("__classdict__" : Str)) = false := by
  unfold okName at h
  simp only [Bool.and_eq_true, Bool.not_eq_true'] at h
  exact h
theorem gl_ok (c : Cok T P TD G CX k N sc co X E) {x : Str} (h : glB sc x = true) : Gl X x := by
  unfold glB at h
  have h' := beq_iff_eq.mp h
  rw [← c.sc] at h'
  exact h'
theorem blt_ok (c : Cok T P TD G CX k N sc co X E) {x : Str} (h : bltB G sc x = true) : Gl X x ∧ X.mg x = none := by
  unfold bltB at h
  rw [Bool.and_eq_true] at h
  exact ⟨gl_ok c h.1, c.g.blt x (List.contains_iff_mem.mp h.2)⟩
theorem vis_ok (c : Cok T P TD G CX k N sc co X E) {x : Str} (h : visB sc x = true) : Vis X.env.scope x := by
  unfold visB at h
  rw [c.sc]
  simp only [Bool.or_eq_true, beq_iff_eq] at h
  rcases h with (h | h) | h
  · exact .inl h
  · exact .inr (.inl h)
  · exact .inr (.inr h)
theorem con_ok (c : Cok T P TD G CX k N sc co X E) {w : Wv} {e : Expr} (h : conB G sc w e = true) : PE X e (tW T E fun _ S => .ok w S) := by
  unfold conB at h
  split at h
  · cases same_eq _ _ h; exact e_con pe_int fun _ _ => rw_int
  · cases same_eq _ _ h; exact e_con pe_bl fun _ _ => rw_bl
  · cases same_eq _ _ h; exact e_con pe_str fun _ _ => rw_str
  · cases same_eq _ _ h; exact e_con pe_non fun _ _ => rw_non
  · simp only [Bool.and_eq_true] at h
    obtain ⟨⟨h1, h2⟩, h3⟩ := h
    split at h3
    · rename_i u eu
      cases same_eq _ _ h3
      obtain ⟨v, z, g1, g2, g3⟩ := c.g.con _ _ eu
      exact e_con (pe_glob (gl_ok c h1) g1 g2 (ok_name h2).1) g3
    · cases h3
  · cases h
theorem con_cls (c : Cok T P TD G CX k N sc co X E) {n : Nat} {e : Expr} (h : conB G sc (.cls n) e = true) : PE X e (tC (.ref (T.ca n))) ∧ baseOk e = true := by
  unfold conB at h
  split at h
  · cases same_eq _ _ h
  · cases same_eq _ _ h
  · cases same_eq _ _ h
  · cases same_eq _ _ h
  · simp only [Bool.and_eq_true] at h
    obtain ⟨⟨h1, h2⟩, h3⟩ := h
    split at h3
    · rename_i u eu
      cases same_eq _ _ h3
      obtain ⟨v, z, g1, g2, g3⟩ := c.g.con _ _ eu
      have e1 := g3 [] fun _ => none
      unfold RW at e1
      subst e1
      exact ⟨pe_glob (gl_ok c h1) g1 g2 (ok_name h2).1, rfl⟩
    · cases h3
  · cases h
theorem ty_ok (c : Cok T P TD G CX k N sc co X E) {t : Ty} {x : Str} (h : tyB G sc t x = true) : tyOk X x t := by
  unfold tyB at h
  simp only [Bool.and_eq_true] at h
  obtain ⟨⟨h0, h1⟩, h2⟩ := h
  obtain ⟨g1, g2⟩ := blt_ok c h2
  have hx := eq_of h1
  subst hx
  refine ⟨g1, g2, ?_⟩
  cases t with
  | own n => cases h0
  | _ => exact ⟨by decide +kernel, by decide +kernel, by decide +kernel⟩
theorem tys_ok (c : Cok T P TD G CX k N sc co X E) : ∀ {ts : List Ty} {es : List Expr}, tysB G sc ts es = true → tysOk X es ts
  | [], [], _ => trivial
  | t :: ts, .Name x _ :: es, h => by
    unfold tysB at h
    rw [Bool.and_eq_true] at h
    exact ⟨ty_ok c h.1, tys_ok c h.2⟩
  | [], _ :: _, h => by simp [tysB] at h
  | _ :: _, [], h => by simp [tysB] at h
  | t :: ts, e :: es, h => by
    cases e with
    | Name x p =>
      unfold tysB at h
      rw [Bool.and_eq_true] at h
      exact ⟨ty_ok c h.1, tys_ok c h.2⟩
    | _ => simp [tysB] at h
mutual
theorem g_ok (c : Cok T P TD G CX k N sc co X E) : ∀ (g : Tg) {e : Expr}, chkG N sc co g e = true → PG X e (gG X.K g)
  | .nm i, e, h => by
    unfold chkG at h
    split at h
    · unfold storeB at h
      simp only [Bool.and_eq_true, Bool.or_eq_true, beq_iff_eq] at h
      obtain ⟨h1, h2⟩ := h
      unfold gG
      refine pg_name c.W.nd (by rw [c.n]; exact h1) ?_ ?_
      · rw [c.sc]
        rcases h2 with h2 | h2
        · exact .inl h2
        · exact .inr h2.1
      · rw [c.sc]
        rcases h2 with h2 | h2
        · exact .inr h2
        · exact .inl (c.W.cel _ (List.contains_iff_mem.mp h2.2))
    · cases h
  | .tp ts, e, h => by
    unfold chkG at h
    split at h
    · rw [Bool.and_eq_true] at h
      unfold gG
      obtain ⟨h1, h2⟩ := gs_ok c ts (by rw [h.1, h.2]; rfl)
      have l := asg_len (env := X.env) h.1
      exact pg_tup c.W.calm h1 (l.1.trans h2) l.2
    · cases h
theorem gs_ok (c : Cok T P TD G CX k N sc co X E) : ∀ (ts : List Tg) {es : List Expr}, (es.all notStar && chkGs N sc co ts es) = true → PGs X es (gGs X.K ts) ∧ es.length = ts.length
  | [], es, h => by
    rw [Bool.and_eq_true] at h
    have h2 := h.2
    unfold chkGs at h2
    split at h2
    · unfold gGs
      exact ⟨pgs_nil, rfl⟩
    · cases h2
  | t :: ts, es, h => by
    rw [Bool.and_eq_true] at h
    have h2 := h.2
    unfold chkGs at h2
    split at h2
    · rename_i e es
      rw [Bool.and_eq_true] at h2
      have h1 := h.1
      rw [List.all_cons, Bool.and_eq_true] at h1
      unfold gGs
      obtain ⟨g1, g2⟩ := gs_ok c ts (es := es) (by rw [h1.2, h2.2]; rfl)
      exact ⟨pgs_cons (g_ok c t h2.1) g1 (asg_cons h1.1), by rw [List.length_cons, List.length_cons, g2]⟩
    · cases h2
end
end
end Pe

set_option Elab.async false
set_option linter.all false
set_option maxRecDepth 100000
set_option maxHeartbeats 1000000
/-! The check is sound: expressions, the cases. -/
namespace Pe
open PySem PySem.Spec PyProof.Rows L2
variable {T : Tb} {X : Cx} {P : Pg} {CX : CXT} {k : Nat} {TD : Nat → Option Dd} {G : Ge} {N : List Str} {E : XK} {sc : Scope} {co : List Str}
theorem pe_to {e : Expr} {m m' : Mw Wv} (h : PE X e (tW T E m)) (q : ∀ r S, m' r S = m r S) : PE X e (tW T E m') := h.weak fun _ _ _ z => tW_congr z q
theorem pt_to {e : Expr} {m m' : Mw Bool} (h : PT X e (tBl T E m)) (q : ∀ r S, m' r S = m r S) : PT X e (tBl T E m') := h.weak fun _ _ _ z => tBl_congr z q
theorem pa_to {e : List Expr} {m m' : Mw (List Wv)} (h : PA X e (tWs T E m)) (q : ∀ r S, m' r S = m r S) : PA X e (tWs T E m') := h.weak fun s H Q ⟨S, is, r, hS, hr, hp⟩ => ⟨S, is, r, hS, hr, by rw [← q]; exact hp⟩
theorem bop_ok (c : Cok T P TD G CX k N sc co X E) {o : BOp} {op : Operator} (h : bopB o op = true) : OpR X (binaryOp op) (r2 T E fun x y S => R.of (binW o S x y) S) := by
  cases o <;> cases op <;> first | cases h | skip
  · exact o_add c.W.hK
  · exact o_sub
  · exact o_mul c.W.hK
  · exact o_mod
  · exact o_fdiv
  · exact o_pow
theorem cop_ok (c : Cok T P TD G CX k N sc co X E) {o : COp} {op : CmpOp} (h : copB o op = true) : OpR X (compareOp op) (r2 T E fun x y S => R.of ((cmpW o S x y).map Wv.bl) S) := by
  cases o <;> cases op <;> first | cases h | skip
  · exact o_eq c.W.hK c.W.unit
  · exact o_ne c.W.hK c.W.unit
  · exact o_lt
  · exact o_le
  · exact o_gt
  · exact o_ge
  · exact o_in c.W.hK c.W.unit
  · exact o_notin c.W.hK c.W.unit
  · exact o_is
  · exact o_isnot
theorem p1_ok (c : Cok T P TD G CX k N sc co X E) {p : P1} {x : Str} {y : Expr} {n1 pos : Pos} {m : Mw Wv} (hp : p1N p = some x) (hb : bltB G sc x = true) (hs : notStar y = true) (hy : PE X y (tW T E m)) :
    PE X (.Call (.Name x n1) [y] [] pos) (tW T E fun r S => (m r S).bind fun x S1 => R.of (pr1 p S1 x) S1) := by
  obtain ⟨g1, g2⟩ := blt_ok c hb
  cases p <;> first | cases hp | skip
  · exact e_b1 (c_len c.W.hK) g1 g2 (by decide +kernel) hy (by decide) (by decide) (star_ok hs) rfl
  · exact e_b1 c_abs g1 g2 (by decide +kernel) hy (by decide) (by decide) (star_ok hs) rfl
  · exact e_b1 (c_all c.W.calm) g1 g2 (by decide +kernel) hy (by decide) (by decide) (star_ok hs) rfl
  · exact e_b1 (c_any c.W.calm) g1 g2 (by decide +kernel) hy (by decide) (by decide) (star_ok hs) rfl
  · exact e_b1 (c_sum c.W.calm) g1 g2 (by decide +kernel) hy (by decide) (by decide) (star_ok hs) rfl
  · exact e_bT (c_tuple c.W.hK) g1 g2 (by decide +kernel) hy (by decide) (by decide) (star_ok hs) rfl
  · exact e_b1 (c_repr c.W.hK c.W.grd c.W.unit) g1 g2 (by decide +kernel) hy (by decide) (by decide) (star_ok hs) rfl
  · exact e_bT c_str g1 g2 (by decide +kernel) hy (by decide) (by decide) (star_ok hs) rfl
  · exact e_bT c_int g1 g2 (by decide +kernel) hy (by decide) (by decide) (star_ok hs) rfl
  · exact e_bT c_bool g1 g2 (by decide +kernel) hy (by decide) (by decide) (star_ok hs) rfl
theorem p2_ok (c : Cok T P TD G CX k N sc co X E) {p : P2} {x : Str} {y z : Expr} {n1 pos : Pos} {ma mb : Mw Wv} (hp : x = p2N p) (hb : bltB G sc x = true) (hs : notStar y = true) (hs2 : notStar z = true) (hy : PE X y (tW T E ma)) (hz : PE X z (tW T E mb)) :
    PE X (.Call (.Name x n1) [y, z] [] pos) (tW T E fun r S => (ma r S).bind fun x S1 => (mb r S1).bind fun y S2 => R.of (pr2 p S2 x y) S2) := by
  obtain ⟨g1, g2⟩ := blt_ok c hb
  subst hp
  cases p
  · exact e_b2 (c_max c.W.calm) g1 g2 (by decide +kernel) hy hz (by decide) (by decide) (by simp [hs, hs2])
  · exact e_b2 (c_min c.W.calm) g1 g2 (by decide +kernel) hy hz (by decide) (by decide) (by simp [hs, hs2])
theorem blk_ok (h : blkB N sc scope own = true) (hx : X.env.scope = sc) (hn : X.N = N) : BlkOk X.N X.env.scope scope (ownOf N own) ∧ (ownOf N own).map (·.2) = own := by
  unfold blkB at h
  simp only [Bool.and_eq_true, beq_iff_eq, List.all_eq_true] at h
  obtain ⟨⟨⟨⟨h1, h2⟩, h3⟩, h4⟩, h5⟩ := h
  refine ⟨⟨h2, fun y hy => h3 y hy, fun p hp => ?_, fun y hy e => ?_, fun y hy e => ?_⟩, h1⟩
  · unfold ownOf at hp
    obtain ⟨i, _, e⟩ := List.mem_filterMap.mp hp
    obtain ⟨x, e1, rfl⟩ := Option.map_eq_some_iff.mp e
    rw [hn]
    exact e1
  · have z := h4 y hy
    rw [hx]
    simp only [Bool.or_eq_true, Bool.not_eq_true', beq_iff_eq, beq_eq_false_iff_ne] at z
    rcases z with (z | z) | z
    · exact absurd e z
    · exact .inl z
    · exact .inr z
  · have z := h5 y hy
    rw [hn]
    simp only [Bool.or_eq_true, Bool.not_eq_true', beq_iff_eq, Bool.or_eq_false_iff, beq_eq_false_iff_ne, List.contains_iff_mem] at z
    rcases z with (z | z) | z
    · rcases e with e | e
      · exact absurd e z.1
      · exact absurd e z.2
    · exact .inl z
    · refine .inr fun q => ?_
      rw [List.contains_iff_mem.mpr q] at z
      cases z
theorem rel_sc {scope : Scope} {cl : List (Str × Addr)} {C : Addr} : (compEnvC scope cl C X.env).scope = relS X.env.scope scope := rfl
theorem Cok.blk (c : Cok T P TD G CX k N sc co X E) (sh : Shared) (H : Hp) (scope : Scope) (cl : List (Str × Addr)) (C : Addr) (fp : List Addr) : Cok T P TD G CX k N (relS sc scope) (cellsOf scope) (X.blk sh H scope (compEnvC scope cl C X.env) fp) XF where
  W := c.W.blk sh H scope cl C fp
  g := c.g
  sc := by
    show (compEnvC scope cl C X.env).scope = _
    rw [rel_sc, c.sc]
  n := c.n
end Pe

set_option Elab.async false
set_option linter.all false
set_option maxRecDepth 100000
set_option maxHeartbeats 1000000
/-! The check is sound: expressions, the whole. -/
namespace Pe
open PySem PySem.Spec PyProof.Rows L2
variable {T : Tb} {P : Pg} {CX : CXT} {k : Nat} {TD : Nat → Option Dd} {G : Ge} {N : List Str}
abbrev PEc (P : Pg) (T : Tb) (k : Nat) (X : Cx) (E : XK) (c : C) (e : Expr) : Prop := PE X e (tW T E (ev P (callN P k) c))
theorem not_set {e : Expr} {env : Env} {x : Value} (h : notSet e = true) : foldedSetIterable e env x = pure x := by
  cases e <;> first | rfl | cases h
theorem plain_of {sc : Scope} {co : List Str} : ∀ (c : C) {e : Expr}, chkE G P N sc co c e = true → testC c = true → (match c with
  | .cmp .. => true
  | .cmp2 .. => true
  | .not _ => true
  | .and _ => true
  | .or _ => true
  | _ => plainT e) = true := fun c e h t => by
  cases c with
  | k w =>
    unfold chkE conB at h
    split at h <;> first | rfl | cases h
  | p1 p a =>
    cases p <;> (unfold chkE at h; dsimp only at h; first | cases h | (split at h <;> first | rfl | cases h))
  | ite t a b => cases t
  | frz a => cases t
  | isi a ts =>
    unfold chkE at h
    split at h <;> first | rfl | cases h
  | _ =>
    first
    | rfl
    | (unfold chkE at h; first | cases h | (split at h <;> first | rfl | cases h))
theorem e_pair {X : Cx} {E : XK} {es : List Expr} {ms : Mw (List Wv)} {cs : List C} (h : PA X es (tWs T E fun r S => evs P (callN P k) cs r S)) : PA X es (tWs T E fun r S => evs P (callN P k) cs r S) := h
mutual
theorem e_ok : ∀ (c : C) {e : Expr} {X : Cx} {E : XK} {sc : Scope} {co : List Str}, Cok T P TD G CX k N sc co X E → chkE G P N sc co c e = true → PEc P T k X E c e
  | .v i, e, X, E, sc, co, O, h => by
    unfold chkE at h
    split at h
    · simp only [Bool.and_eq_true, beq_iff_eq] at h
      exact pe_to (e_var (by rw [O.n]; exact h.1.1) (vis_ok O h.1.2) (ok_name h.2).1 (ok_name h.2).2) fun r S => by rw [ev]
    · cases h
  | .k w, e, X, E, sc, co, O, h => by
    unfold chkE at h
    exact pe_to (con_ok O h) fun r S => by rw [ev]
  | .bin o a b, e, X, E, sc, co, O, h => by
    unfold chkE at h
    split at h
    · simp only [Bool.and_eq_true] at h
      exact pe_to (e_bin (e_ok a O h.1.2) (e_ok b O h.2) (bop_ok O h.1.1)) fun r S => by rw [ev]
    · cases h
  | .cmp o a b, e, X, E, sc, co, O, h => by
    unfold chkE at h
    split at h
    · simp only [Bool.and_eq_true, Bool.not_eq_true'] at h
      exact pe_to (e_cmp (e_ok a O h.1.2) (e_ok b O h.2) (cop_ok O h.1.1.1) h.1.1.2) fun r S => by rw [ev]
    · cases h
  | .cmp2 o p a b c, e, X, E, sc, co, O, h => by
    unfold chkE at h
    split at h
    · simp only [Bool.and_eq_true, Bool.not_eq_true'] at h
      exact pe_to (e_chain (cop_ok O h.1.1.1.1.1) (cop_ok O h.1.1.1.1.2) (e_ok a O h.1.1.2) (e_ok b O h.1.2) (e_ok c O h.2) h.1.1.1.2) fun r S => by rw [ev] <;> rfl
    · cases h
  | .not a, e, X, E, sc, co, O, h => by
    unfold chkE at h
    split at h
    · exact pe_to (e_not (e_ok a O h)) fun r S => by rw [ev]
    · cases h
  | .and es, e, X, E, sc, co, O, h => by
    unfold chkE at h
    split at h
    · simp only [Bool.and_eq_true, Bool.not_eq_true', List.isEmpty_eq_false_iff] at h
      exact pe_to (e_and (es_ok es O h.2) h.1) fun r S => by rw [ev]
    · cases h
  | .or es, e, X, E, sc, co, O, h => by
    unfold chkE at h
    split at h
    · simp only [Bool.and_eq_true, Bool.not_eq_true', List.isEmpty_eq_false_iff] at h
      exact pe_to (e_or (es_ok es O h.2) h.1) fun r S => by rw [ev]
    · cases h
  | .neg a, e, X, E, sc, co, O, h => by
    unfold chkE at h
    split at h
    · exact pe_to (e_neg (e_ok a O h)) fun r S => by rw [ev] <;> rfl
    · cases h
  | .ite t a b, e, X, E, sc, co, O, h => by
    unfold chkE at h
    split at h
    · simp only [Bool.and_eq_true] at h
      exact pe_to (e_ite (t_ok t O h.1.1.2 h.1.1.1) (e_ok a O h.1.2) (e_ok b O h.2)) fun r S => by rw [ev]
    · cases h
  | .tup es, e, X, E, sc, co, O, h => by
    unfold chkE at h
    split at h
    · simp only [Bool.and_eq_true] at h
      exact pe_to (e_tup (as_ok es O h.2 h.1)) fun r S => by rw [ev]
    · cases h
  | .dsp bx es, e, X, E, sc, co, O, h => by
    unfold chkE at h
    split at h
    · simp only [Bool.and_eq_true] at h
      exact pe_to (e_dsp2 (bx := bx) (as_ok es O h.2 h.1)) fun r S => by rw [ev]
    · cases h
  | .lc bx own g it cond c, e, X, E, sc, co, O, h => by
    unfold chkE at h
    split at h
    · simp only [Bool.and_eq_true, decide_eq_true_eq] at h
      obtain ⟨⟨⟨⟨⟨⟨⟨⟨h1, h2⟩, h3⟩, h4⟩, h5⟩, h6⟩, h7⟩, h8⟩, h9⟩ := h
      obtain ⟨b1, b2⟩ := blk_ok h1 O.sc O.n
      refine pe_to (e_new (bx := bx) (e_lc (own := ownOf N own) (cond := fun r S2 => evAll P (callN P k) cond r S2) O.W.hK O.W.calm O.W.nd (i_ok it O h4) b1 (fun sh H C cl fp => g_ok (O.blk sh H _ cl C fp) g h5) (fun sh H C cl fp => ?_) (fun sh H C cl fp => e_ok c (O.blk sh H _ cl C fp) h9) (fun x => not_set h2) fun i hi => ?_)) fun r S => ?_
      · exact ts_ok cond (O.blk sh H _ cl C fp) h8 h7 h6
      · rw [b2]
        exact List.contains_iff_mem.mp (List.all_eq_true.mp h3 i hi)
      · rw [ev, R.bind_assoc]
        congr 1
        funext i S1
        rw [b2]
        by_cases z : i.xs.length ≤ line
        · rw [if_pos z, if_pos z]
        · rw [if_neg z, if_neg z]; rfl
    · cases h
  | .lst bx a, e, X, E, sc, co, O, h => by
    unfold chkE at h
    split at h
    · simp only [Bool.and_eq_true] at h
      obtain ⟨⟨⟨h1, h2⟩, h3⟩, h4⟩ := h
      cases eq_of h1
      obtain ⟨g1, g2⟩ := blt_ok O h2
      exact pe_to (e_new (bx := bx) (e_bTL (c_list O.W.hK O.W.calm) g1 g2 (by decide +kernel) (e_ok a O h4) (by decide) (by decide) (star_ok h3) rfl)) fun r S => by rw [ev, R.bind_assoc]
    · cases h
  | .srt bx a, e, X, E, sc, co, O, h => by
    unfold chkE at h
    split at h
    · simp only [Bool.and_eq_true] at h
      obtain ⟨⟨⟨h1, h2⟩, h3⟩, h4⟩ := h
      cases eq_of h1
      obtain ⟨g1, g2⟩ := blt_ok O h2
      exact pe_to (e_new (bx := bx) (e_bBL (c_sorted O.W.hK O.W.calm) g1 g2 (by decide +kernel) (e_ok a O h4) (by decide) (by decide) (star_ok h3) rfl)) fun r S => by rw [ev, R.bind_assoc]
    · cases h
  | .idx a i, e, X, E, sc, co, O, h => by
    unfold chkE at h
    split at h
    · simp only [Bool.and_eq_true] at h
      exact pe_to (e_idx O.W.hK O.W.unit (e_ok a O h.1.2) (e_ok i O h.2) (plain_ix h.1.1)) fun r S => by rw [ev]
    · cases h
  | .slc a lo hi, e, X, E, sc, co, O, h => by
    unfold chkE at h
    split at h
    · simp only [Bool.and_eq_true] at h
      exact pe_to (e_slc O.W.hK (e_ok a O h.1.1) (o_ok lo O h.1.2) (o_ok hi O h.2)) fun r S => by rw [ev]
    · cases h
  | .rev bx a, e, X, E, sc, co, O, h => by
    unfold chkE at h
    split at h
    · exact pe_to (e_rev (bx := bx) O.W.hK (e_ok a O h)) fun r S => by rw [ev] <;> rfl
    · cases h
  | .p1 p a, e, X, E, sc, co, O, h => by
    have fin : ∀ x : Str, ∀ n1 pos y, e = .Call (.Name x n1) [y] [] pos → p1N p = some x → bltB G sc x = true → notStar y = true → chkE G P N sc co a y = true → PEc P T k X E (.p1 p a) e := fun x n1 pos y ee e1 e2 e3 e4 => by
      subst ee
      exact pe_to (p1_ok O e1 e2 e3 (e_ok a O e4)) fun r S => by rw [ev]
    unfold chkE at h
    split at h
    · split at h
      · simp only [Bool.and_eq_true] at h
        obtain ⟨⟨⟨⟨⟨h1, h2⟩, h3⟩, h4⟩, h5⟩, h6⟩ := h
        cases eq_of h1
        cases eq_of h3
        obtain ⟨g1, g2⟩ := blt_ok O h2
        obtain ⟨g3, g4⟩ := blt_ok O h4
        exact pe_to (e_lenset O.W.calm O.W.hK g1 g2 g3 g4 (e_ok a O h6) h5) fun r S => by rw [ev]
      · cases h
    · split at h
      · simp only [Bool.and_eq_true] at h
        obtain ⟨⟨⟨h1, h2⟩, h3⟩, h4⟩ := h
        cases eq_of h1
        exact pe_to (e_upper (e_ok a O h4) h2 h3) fun r S => by rw [ev]
      · cases h
    · split at h
      · simp only [Bool.and_eq_true, beq_iff_eq] at h
        exact fin _ _ _ _ rfl h.1.1.1 h.1.1.2 h.1.2 h.2
      · cases h
  | .p2 p a b, e, X, E, sc, co, O, h => by
    unfold chkE at h
    split at h
    · simp only [Bool.and_eq_true, beq_iff_eq] at h
      exact pe_to (p2_ok O h.1.1.1.1.1 h.1.1.1.1.2 h.1.1.1.2 h.1.1.2 (e_ok a O h.1.2) (e_ok b O h.2)) fun r S => by rw [ev]
    · cases h
  | .jn a b, e, X, E, sc, co, O, h => by
    unfold chkE at h
    split at h
    · simp only [Bool.and_eq_true] at h
      obtain ⟨⟨⟨⟨⟨h1, h2⟩, h3⟩, h4⟩, h5⟩, h6⟩ := h
      cases eq_of h1
      exact pe_to (e_jn O.W.hK (e_ok a O h5) (e_ok b O h6) h2 h4 h3) fun r S => by rw [ev] <;> rfl
    · cases h
  | .isi a ts, e, X, E, sc, co, O, h => by
    unfold chkE at h
    split at h
    · simp only [Bool.and_eq_true] at h
      obtain ⟨⟨⟨⟨h1, h2⟩, h3⟩, h4⟩, h5⟩ := h
      cases eq_of h1
      obtain ⟨g1, g2⟩ := blt_ok O h2
      split at h5
      · exact pe_to (e_isi1 O.W.hK g1 g2 (e_ok a O h4) (ty_ok O h5) h3) fun r S => by rw [ev]
      · cases h5
    · simp only [Bool.and_eq_true, Bool.not_eq_true', List.isEmpty_eq_false_iff, decide_eq_true_eq] at h
      obtain ⟨⟨⟨⟨⟨⟨h1, h2⟩, h3⟩, h4⟩, h5⟩, h6⟩, h7⟩ := h
      cases eq_of h1
      obtain ⟨g1, g2⟩ := blt_ok O h2
      exact pe_to (e_isiT O.W.hK g1 g2 (e_ok a O h4) (tys_ok O h7) h5 h6 h3) fun r S => by rw [ev]
    · cases h
  | .mut m o as, e, X, E, sc, co, O, h => by
    unfold chkE at h
    split at h
    · simp only [Bool.and_eq_true, decide_eq_true_eq] at h
      obtain ⟨⟨⟨⟨⟨⟨h1, h2⟩, h3⟩, h4⟩, h5⟩, h6⟩, h7⟩ := h
      cases eq_of h1
      rename_i ys _
      cases ys with
      | nil =>
        cases as with
        | nil => exact pe_to (e_mut0 (P := P) (Fn := callN P k) (e_ok o O h6) h2 h3) fun r S => by rw [ev]
        | cons c cs => unfold chkEs at h7; cases h7
      | cons y ys => exact pe_to (e_mut (e_ok o O h6) (as_ok as O h7 h4) h2 h4 h5 h3) fun r S => by rw [ev]
    · cases h
  | .frz a, e, X, E, sc, co, O, h => by
    unfold chkE at h
    exact pe_to (e_frz (e_ok a O h)) fun r S => by rw [ev]
  | .att o f, e, X, E, sc, co, O, h => by
    unfold chkE at h
    split at h
    · simp only [Bool.and_eq_true, beq_iff_eq] at h
      cases O.g.an _ _ h.1.1
      exact pe_to (e_att O.W.hK O.W.tb (e_ok o O h.2) h.1.2) fun r S => by rw [ev]
    · cases h
  | .fn f es, e, X, E, sc, co, O, h => by
    unfold chkE at h
    split at h
    · simp only [Bool.and_eq_true, beq_iff_eq] at h
      obtain ⟨⟨⟨⟨h1, h2⟩, h3⟩, h4⟩, h5⟩ := h
      obtain ⟨d, hd, hm⟩ := O.g.fn _ _ h3
      rename_i ys _
      cases ys with
      | nil =>
        cases es with
        | nil => exact pe_to (e_fn0 O.W (Fo' := callN P k) hd (gl_ok O h1) hm (ok_name h2).1) fun r S => by rw [ev]
        | cons c cs => unfold chkEs at h5; cases h5
      | cons y ys => exact pe_to (e_fn O.W hd (gl_ok O h1) hm (as_ok es O h5 h4) (ok_name h2).1 h4 (by simp)) fun r S => by rw [ev]
    · cases h
  | .fnk f es ks perm, e, X, E, sc, co, O, h => by
    unfold chkE at h
    split at h
    · simp only [Bool.and_eq_true, beq_iff_eq, List.isEmpty_iff] at h
      obtain ⟨⟨⟨⟨⟨h1, h2⟩, h3⟩, h4⟩, h5⟩, h6⟩ := h
      subst h4
      obtain ⟨d, hd, hm⟩ := O.g.fn _ _ h3
      split at h5
      · rename_i ns en
        obtain ⟨q1, q2⟩ := O.g.kw _ _ _ (List.contains_iff_mem.mp h5)
        have hl : ks.length = ns.length := kk_len ks en h6
        refine pe_to (e_fnk0 O.W (Fo' := callN P k) hd q2 (gl_ok O h1) hm (q1 d hd) (ks_ok ks O h6) en (fun r S => ?_) (ok_name h2).1) fun r S => by rw [ev] <;> rfl
        rw [← hl]
        exact evs_len
      · cases h5
    · cases h
  | .mth m o es, e, X, E, sc, co, O, h => by
    unfold chkE at h
    split at h
    · simp only [Bool.and_eq_true, beq_iff_eq, decide_eq_true_eq] at h
      obtain ⟨⟨⟨⟨⟨⟨h1, h2⟩, h3⟩, h4⟩, h5⟩, h6⟩, h7⟩ := h
      cases O.g.an _ _ h1
      have h3' : (_ == _) = true := beq_iff_eq.mpr h3
      rename_i ys _
      cases ys with
      | nil =>
        cases es with
        | nil => exact pe_to (e_mth0 O.W O.g.mt (Fo' := callN P k) (e_ok o O h6) h2 h3') fun r S => by rw [ev] <;> rfl
        | cons c cs => unfold chkEs at h7; cases h7
      | cons y ys => exact pe_to (e_mth O.W O.g.mt (e_ok o O h6) (as_ok es O h7 h4) h2 h4 h5 h3' (by simp)) fun r S => by rw [ev] <;> rfl
    · cases h
  | .cm c m es, e, X, E, sc, co, O, h => by
    unfold chkE at h
    split at h
    · simp only [Bool.and_eq_true, beq_iff_eq, decide_eq_true_eq, Bool.not_eq_true', List.isEmpty_eq_false_iff] at h
      obtain ⟨⟨⟨⟨⟨⟨⟨⟨h1, h2⟩, h3⟩, h4⟩, h5⟩, h6⟩, h7⟩, h8⟩, h9⟩ := h
      cases O.g.an _ _ h1
      have h3' : (_ == _) = true := beq_iff_eq.mpr h3
      obtain ⟨i, hi⟩ := Option.isSome_iff_exists.mp h7
      exact pe_to (e_cm O.W O.g.cm (con_cls O h8).1 hi (as_ok es O h9 h4) h2 h4 h5 h3' h6) fun r S => by rw [ev]; simp only [hi]
    · cases h
  | .new c, e, X, E, sc, co, O, h => by
    unfold chkE at h
    split at h
    · exact pe_to (e_new0 O.W O.g.cm (e_ok c O h)) fun r S => by rw [ev]
    · cases h
  | .dnew, e, X, E, sc, co, O, h => by
    unfold chkE at h
    split at h
    · exact pe_to e_dnew fun r S => by rw [ev]
    · cases h
  | .itm bx a, e, X, E, sc, co, O, h => by
    unfold chkE at h
    split at h
    · simp only [Bool.and_eq_true] at h
      obtain ⟨⟨⟨⟨⟨h1, h2⟩, h3⟩, h4⟩, h5⟩, h6⟩ := h
      cases eq_of h1
      cases eq_of h3
      obtain ⟨g1, g2⟩ := blt_ok O h2
      exact pe_to (e_itm (bx := bx) O.W.calm (e_ok a O h6) h4 g1 g2 h5) fun r S => by rw [ev] <;> rfl
    · cases h
  | .stp a es, e, X, E, sc, co, O, h => by
    unfold chkE at h
    split at h
    · simp only [Bool.and_eq_true] at h
      obtain ⟨⟨h1, h2⟩, h3⟩ := h
      exact pe_to (e_stp O.W.hK (e_ok a O h2) (as_ok es O h3 h1)) fun r S => by rw [ev] <;> rfl
    · cases h
theorem t_ok : ∀ (c : C) {e : Expr} {X : Cx} {E : XK} {sc : Scope} {co : List Str}, Cok T P TD G CX k N sc co X E → chkE G P N sc co c e = true → testC c = true → PT X e (tBl T E (mB (ev P (callN P k) c)))
  | .cmp o a b, e, X, E, sc, co, O, h, t => by
    unfold chkE at h
    split at h
    · simp only [Bool.and_eq_true, Bool.not_eq_true'] at h
      exact pt_to (t_cmp (e_ok a O h.1.2) (e_ok b O h.2) (cop_ok O h.1.1.1) h.1.1.2) fun r S => by rw [mB, ev]
    · cases h
  | .cmp2 o p a b c, e, X, E, sc, co, O, h, t => by
    unfold chkE at h
    split at h
    · simp only [Bool.and_eq_true, Bool.not_eq_true'] at h
      exact pt_to (t_chain (cop_ok O h.1.1.1.1.1) (cop_ok O h.1.1.1.1.2) (e_ok a O h.1.1.2) (e_ok b O h.1.2) (e_ok c O h.2) h.1.1.1.2) fun r S => by rw [mB, ev] <;> rfl
    · cases h
  | .not a, e, X, E, sc, co, O, h, t => by
    unfold testC at t
    unfold chkE at h
    split at h
    · exact pt_to (t_not (t_ok a O h t)) fun r S => by rw [mB, ev]
    · cases h
  | .and es, e, X, E, sc, co, O, h, t => by
    unfold testC at t
    unfold chkE at h
    split at h
    · simp only [Bool.and_eq_true, Bool.not_eq_true', List.isEmpty_eq_false_iff] at h
      exact pt_to (w_and (tts_ok es O h.2 t) h.1).pt fun r S => by
        rw [mB, ev, R.bind_assoc]
        cases evAll P (callN P k) es r S <;> rfl
    · cases h
  | .or es, e, X, E, sc, co, O, h, t => by
    unfold testC at t
    unfold chkE at h
    split at h
    · simp only [Bool.and_eq_true, Bool.not_eq_true', List.isEmpty_eq_false_iff] at h
      exact pt_to (w_or (tts_ok es O h.2 t) h.1).pt fun r S => by
        rw [mB, ev, R.bind_assoc]
        cases evAny P (callN P k) es r S <;> rfl
    · cases h
  | .frz a, e, X, E, sc, co, O, h, t => by cases t
  | .ite a b c, e, X, E, sc, co, O, h, t => by cases t
  | .v i, e, X, E, sc, co, O, h, t => t_val (e_ok (.v i) O h) (plain_of (.v i) h t)
  | .k w, e, X, E, sc, co, O, h, t => t_val (e_ok (.k w) O h) (plain_of (.k w) h t)
  | .bin o a b, e, X, E, sc, co, O, h, t => t_val (e_ok (.bin o a b) O h) (plain_of (.bin o a b) h t)
  | .neg a, e, X, E, sc, co, O, h, t => t_val (e_ok (.neg a) O h) (plain_of (.neg a) h t)
  | .tup es, e, X, E, sc, co, O, h, t => t_val (e_ok (.tup es) O h) (plain_of (.tup es) h t)
  | .dsp bx es, e, X, E, sc, co, O, h, t => t_val (e_ok (.dsp bx es) O h) (plain_of (.dsp bx es) h t)
  | .lc bx own g it cond c, e, X, E, sc, co, O, h, t => t_val (e_ok (.lc bx own g it cond c) O h) (plain_of (.lc bx own g it cond c) h t)
  | .lst bx a, e, X, E, sc, co, O, h, t => t_val (e_ok (.lst bx a) O h) (plain_of (.lst bx a) h t)
  | .srt bx a, e, X, E, sc, co, O, h, t => t_val (e_ok (.srt bx a) O h) (plain_of (.srt bx a) h t)
  | .idx a i, e, X, E, sc, co, O, h, t => t_val (e_ok (.idx a i) O h) (plain_of (.idx a i) h t)
  | .slc a lo hi, e, X, E, sc, co, O, h, t => t_val (e_ok (.slc a lo hi) O h) (plain_of (.slc a lo hi) h t)
  | .rev bx a, e, X, E, sc, co, O, h, t => t_val (e_ok (.rev bx a) O h) (plain_of (.rev bx a) h t)
  | .p1 p a, e, X, E, sc, co, O, h, t => t_val (e_ok (.p1 p a) O h) (plain_of (.p1 p a) h t)
  | .p2 p a b, e, X, E, sc, co, O, h, t => t_val (e_ok (.p2 p a b) O h) (plain_of (.p2 p a b) h t)
  | .jn a b, e, X, E, sc, co, O, h, t => t_val (e_ok (.jn a b) O h) (plain_of (.jn a b) h t)
  | .isi a ts, e, X, E, sc, co, O, h, t => t_val (e_ok (.isi a ts) O h) (plain_of (.isi a ts) h t)
  | .mut m o as, e, X, E, sc, co, O, h, t => t_val (e_ok (.mut m o as) O h) (plain_of (.mut m o as) h t)
  | .att o f, e, X, E, sc, co, O, h, t => t_val (e_ok (.att o f) O h) (plain_of (.att o f) h t)
  | .fn f es, e, X, E, sc, co, O, h, t => t_val (e_ok (.fn f es) O h) (plain_of (.fn f es) h t)
  | .fnk f es ks perm, e, X, E, sc, co, O, h, t => t_val (e_ok (.fnk f es ks perm) O h) (plain_of (.fnk f es ks perm) h t)
  | .mth m o es, e, X, E, sc, co, O, h, t => t_val (e_ok (.mth m o es) O h) (plain_of (.mth m o es) h t)
  | .cm c m es, e, X, E, sc, co, O, h, t => t_val (e_ok (.cm c m es) O h) (plain_of (.cm c m es) h t)
  | .new c, e, X, E, sc, co, O, h, t => t_val (e_ok (.new c) O h) (plain_of (.new c) h t)
  | .dnew, e, X, E, sc, co, O, h, t => t_val (e_ok .dnew O h) (plain_of .dnew h t)
  | .itm bx a, e, X, E, sc, co, O, h, t => t_val (e_ok (.itm bx a) O h) (plain_of (.itm bx a) h t)
  | .stp a es, e, X, E, sc, co, O, h, t => t_val (e_ok (.stp a es) O h) (plain_of (.stp a es) h t)
theorem es_ok : ∀ (cs : List C) {es : List Expr} {X : Cx} {E : XK} {sc : Scope} {co : List Str}, Cok T P TD G CX k N sc co X E → chkEs G P N sc co cs es = true → A2 (fun e c => PE X e (tW T E (ev P (callN P k) c))) es cs
  | [], es, X, E, sc, co, O, h => by
    unfold chkEs at h
    cases List.isEmpty_iff.mp h
    exact .nil
  | c :: cs, es, X, E, sc, co, O, h => by
    unfold chkEs at h
    split at h
    · rw [Bool.and_eq_true] at h
      exact .cons (e_ok c O h.1) (es_ok cs O h.2)
    · cases h
theorem tts_ok : ∀ (cs : List C) {es : List Expr} {X : Cx} {E : XK} {sc : Scope} {co : List Str}, Cok T P TD G CX k N sc co X E → chkEs G P N sc co cs es = true → testCs cs = true → A2 (fun e c => PT X e (tBl T E (mB (ev P (callN P k) c)))) es cs
  | [], es, X, E, sc, co, O, h, t => by
    unfold chkEs at h
    cases List.isEmpty_iff.mp h
    exact .nil
  | c :: cs, es, X, E, sc, co, O, h, t => by
    unfold testCs at t
    rw [Bool.and_eq_true] at t
    unfold chkEs at h
    split at h
    · rw [Bool.and_eq_true] at h
      exact .cons (t_ok c O h.1 t.1) (tts_ok cs O h.2 t.2)
    · cases h
theorem as_ok : ∀ (cs : List C) {es : List Expr} {X : Cx} {E : XK} {sc : Scope} {co : List Str}, Cok T P TD G CX k N sc co X E → chkEs G P N sc co cs es = true → es.all notStar = true → PA X es (tWs T E fun r S => evs P (callN P k) cs r S)
  | [], es, X, E, sc, co, O, h, st => by
    unfold chkEs at h
    cases List.isEmpty_iff.mp h
    exact pa_to a_nil fun r S => by rw [evs]
  | c :: cs, es, X, E, sc, co, O, h, st => by
    unfold chkEs at h
    split at h
    · rw [Bool.and_eq_true] at h
      rw [List.all_cons, Bool.and_eq_true] at st
      exact pa_to (a_cons (e_ok c O h.1) (as_ok cs O h.2 st.2) (star_ok st.1)) fun r S => by rw [evs]
    · cases h
theorem ks_ok : ∀ (cs : List C) {es : List Keyword} {X : Cx} {E : XK} {sc : Scope} {co : List Str}, Cok T P TD G CX k N sc co X E → chkKs G P N sc co cs es = true → PK X es (tWs T E fun r S => evs P (callN P k) cs r S)
  | [], es, X, E, sc, co, O, h => by
    unfold chkKs at h
    cases List.isEmpty_iff.mp h
    exact ⟨fun p pins sh σ H Q I q => k_nil.run p pins sh σ H Q I (by
      obtain ⟨S, is, r, hS, hr, hp⟩ := q
      unfold evs at hp
      exact ⟨S, is, r, hS, hr, hp⟩)⟩
  | c :: cs, es, X, E, sc, co, O, h => by
    unfold chkKs at h
    split at h
    · rw [Bool.and_eq_true] at h
      exact ⟨fun p pins sh σ H Q I q => (k_cons (e_ok c O h.1) (ks_ok cs O h.2)).run p pins sh σ H Q I (by
        obtain ⟨S, is, r, hS, hr, hp⟩ := q
        unfold evs at hp
        exact ⟨S, is, r, hS, hr, hp⟩)⟩
    · cases h
theorem kk_len : ∀ (cs : List C) {es : List Keyword} {ns : List Str} {sc : Scope} {co : List Str}, kwNames es = some ns → chkKs G P N sc co cs es = true → cs.length = ns.length
  | [], es, ns, sc, co, e, h => by
    unfold chkKs at h
    cases List.isEmpty_iff.mp h
    cases e
    rfl
  | c :: cs, es, ns, sc, co, e, h => by
    unfold chkKs at h
    split at h
    · rename_i nm y p es
      rw [Bool.and_eq_true] at h
      cases nm with
      | none => cases e
      | some x =>
        unfold kwNames at e
        obtain ⟨t, e1, rfl⟩ := Option.map_eq_some_iff.mp e
        rw [List.length_cons, List.length_cons, kk_len cs e1 h.2]
    · cases h
theorem o_ok : ∀ (c : Option C) {e : Option Expr} {X : Cx} {E : XK} {sc : Scope} {co : List Str}, Cok T P TD G CX k N sc co X E → chkO G P N sc co c e = true → PO X e (tO T E fun r S => evO P (callN P k) c r S)
  | none, e, X, E, sc, co, O, h => by
    unfold chkO at h
    cases Option.isNone_iff_eq_none.mp h
    exact o_none
  | some c, e, X, E, sc, co, O, h => by
    unfold chkO at h
    split at h
    · exact o_some (e_ok c O h)
    · cases h
theorem ts_ok : ∀ (cs : List C) {es : List Expr} {X : Cx} {E : XK} {sc : Scope} {co : List Str}, Cok T P TD G CX k N sc co X E → chkEs G P N sc co cs es = true → testCs cs = true → es.length ≤ 1 → PTs X es (tBl T E fun r S => evAll P (callN P k) cs r S)
  | [], es, X, E, sc, co, O, h, t, l => by
    unfold chkEs at h
    cases List.isEmpty_iff.mp h
    exact ts_nil
  | c :: cs, es, X, E, sc, co, O, h, t, l => by
    unfold testCs at t
    rw [Bool.and_eq_true] at t
    unfold chkEs at h
    split at h
    · rename_i e es
      rw [Bool.and_eq_true] at h
      cases es with
      | nil =>
        cases cs with
        | nil => exact ts_one (t_ok c O h.1 t.1)
        | cons d ds => have z := h.2; unfold chkEs at z; cases z
      | cons f fs => simp at l
    · cases h
theorem i_ok : ∀ (c : Ic) {tg e : Expr} {X : Cx} {E : XK} {sc : Scope} {co : List Str}, Cok T P TD G CX k N sc co X E → chkI G P N sc co c tg e = true → PI X tg e (tI T E fun r S => evI P (callN P k) c r S)
  | .rng es, tg, e, X, E, sc, co, O, h => by
    unfold chkI at h
    split at h
    · simp only [Bool.and_eq_true] at h
      obtain ⟨⟨⟨h1, h2⟩, h3⟩, h4⟩ := h
      cases eq_of h1
      obtain ⟨g1, g2⟩ := blt_ok O h2
      exact i_rng g1 g2 (as_ok es O h4 (by simp [h3])) h3
    · cases h
  | .enm a, tg, e, X, E, sc, co, O, h => by
    unfold chkI at h
    split at h
    · simp only [Bool.and_eq_true] at h
      obtain ⟨⟨⟨⟨h1, h2⟩, h3⟩, h4⟩, h5⟩ := h
      cases eq_of h1
      obtain ⟨g1, g2⟩ := blt_ok O h2
      split at h5
      · exact i_enm O.W.hK g1 g2 (e_ok a O h4) h3
      · cases h5
    · cases h
  | .any c, tg, e, X, E, sc, co, O, h => by
    unfold chkI at h
    exact i_any O.W.hK (e_ok c O h)
end
end Pe

set_option Elab.async false
set_option linter.all false
set_option maxRecDepth 100000
set_option maxHeartbeats 1000000
/-! The check of statements, and that it is sound. -/
namespace Pe
open PySem PySem.Spec PyProof.Rows L2
variable {T : Tb} {P : Pg} {CX : CXT} {k : Nat} {TD : Nat → Option Dd} {G : Ge} {N : List Str}

/-- is a comprehension stored right away in the name? -/
def swapB (sc : Scope) (tg v : Expr) : Bool := notComp v || compFar sc tg
/-- two plain names get two values: the stores are swapped -/
def parB (sc : Scope) (x y : Str) (px py : Pos) (a b : Expr) : Bool :=
  sc.names.lookup x == some .local && sc.names.lookup y == some .local && px.line == py.line && !(x == y) && notStar a && notStar b && sc.kind == .function && !([a, b].all (foldedForSure 8)) && !([a, b].all (constantsAlone 8))
mutual
def chkS (G : Ge) (P : Pg) (N : List Str) (sc : Scope) (co : List Str) : S → Stmt → Bool
  | .asg g e, st => match st with
    | .Assign [tg] v pos => (chkG N sc co g tg && chkE G P N sc co e v && notStar tg && notPar tg v && swapB sc tg v) ||
      (match g, e, tg, v with
        | .nm i, .lc _ own g' it cond c, .Name y py, .ListComp elt [⟨tg', iter, ifs, 0⟩] scope p2 => N[i]? == some y && sc.names.lookup y == some .local && sc.kind == .function && py.line == p2.line && !(scope.names.any fun (n, k) => n == y && (k == .local || k == .cell))
            && blkB N sc scope own && notSet iter && (slotsG g').all own.contains && chkI G P N sc co it tg' iter && chkG N (relS sc scope) (cellsOf scope) g' tg' && ifs.length ≤ 1 && testCs cond && chkEs G P N (relS sc scope) (cellsOf scope) cond ifs && chkE G P N (relS sc scope) (cellsOf scope) c elt
        | _, _, _, _ => false)
    | _ => false
  | .par i j a b, st => match st with
    | .Assign [.Tuple [.Name x px, .Name y py] _ _] (.Tuple [u, v] _ _) _ => N[i]? == some x && N[j]? == some y && !(i == j) && parB sc x y px py u v && chkE G P N sc co a u && chkE G P N sc co b v
    | _ => false
  | .seti o i e, st => match st with
    | .Assign [.Subscript x y _] v _ => plainIxB y && chkE G P N sc co o x && chkE G P N sc co i y && chkE G P N sc co e v
    | _ => false
  | .seta o f e, st => match st with
    | .Assign [.Attribute x nm _] v _ => G.an[f]? == some nm && chkE G P N sc co o x && chkE G P N sc co e v
    | _ => false
  | .ex e, st => match st with
    | .Expr v _ => notComp v && chkE G P N sc co e v
    | _ => false
  | .ret e, st => match st with
    | .Return (some v) _ => chkE G P N sc co e v
    | .Return none _ => match e with
      | .k .non => true
      | _ => false
    | _ => false
  | .ite t a b, st => match st with
    | .If c u v _ => testC t && chkE G P N sc co t c && chkB G P N sc co a u && chkB G P N sc co b v
    | _ => false
  | .for_ g it b, st => match st with
    | .For tg iter u [] _ => notSet iter && chkI G P N sc co it tg iter && chkG N sc co g tg && chkB G P N sc co b u
    | _ => false
  | .nx, st => match st with
    | .Pass _ => true
    | .Expr (.Constant (.str _) _ _) _ => true
    | _ => false
  | .brk, st => match st with
    | .Break _ => true
    | _ => false
  | .cont, st => match st with
    | .Continue _ => true
    | _ => false
  | .never, _ => true
  | .mat i p a b, st => match st with
    | .Match (.Name x _) (⟨pat, none, body⟩ :: cs) _ => N[i]? == some x && visB sc x && okName x && patB N sc co p pat && chkB G P N sc co a body && chkM G P N sc co b i cs
    | _ => false
def chkM (G : Ge) (P : Pg) (N : List Str) (sc : Scope) (co : List Str) : List S → Nat → List MatchCase → Bool
  | [], _, cs => cs.isEmpty
  | s :: ss, i, cs => match s with
    | .mat j p a b => match cs with
      | ⟨pat, none, body⟩ :: cs => j == i && ss.isEmpty && patB N sc co p pat && chkB G P N sc co a body && chkM G P N sc co b i cs
      | _ => false
    | _ => false
def chkB (G : Ge) (P : Pg) (N : List Str) (sc : Scope) (co : List Str) : List S → List Stmt → Bool
  | [], sts => sts.isEmpty
  | s :: ss, sts => match sts with
    | st :: sts => chkS G P N sc co s st && chkB G P N sc co ss sts
    | [] => false
end
theorem ps_to {X : Cx} {E : XK} {st : Stmt} {m m' : Mf} (h : PS X st (tSt T E m)) (q : ∀ r S, m' r S = m r S) : PS X st (tSt T E m') := h.weak fun D s H ⟨S, is, r, hS, hr, hp⟩ => ⟨S, is, r, hS, hr, by rw [← q]; exact hp⟩
theorem pss_to {X : Cx} {E : XK} {st : List Stmt} {m m' : Mf} (h : PSs X st (tSt T E m)) (q : ∀ r S, m' r S = m r S) : PSs X st (tSt T E m') := ⟨fun pins s σ H D I ⟨S, is, r, hS, hr, hp⟩ => h.run pins s σ H D I ⟨S, is, r, hS, hr, by rw [← q]; exact hp⟩⟩
theorem swap_b {sc : Scope} {X : Cx} {tg v : Expr} {l : Nat} (hx : X.env.scope = sc) (h : swapB sc tg v = true) : swapsWith v (some tg) l X.env = pure false := by
  unfold swapB at h
  rw [Bool.or_eq_true] at h
  rcases h with h | h
  · exact swap_ok h
  · exact swap_far (by rw [hx]; exact h)
theorem par_sw {sc : Scope} {env : Env} {x y : Str} {px py pt pt2 : Pos} {kt k2 : Nat} {a b : Expr} (hx : env.scope = sc) (h : parB sc x y px py a b = true) : swappedStores [.Tuple [.Name x px, .Name y py] kt pt] (.Tuple [a, b] k2 pt2) env = pure (some [x, y]) := by
  unfold parB at h
  simp only [Bool.and_eq_true, beq_iff_eq, Bool.not_eq_true'] at h
  obtain ⟨⟨⟨⟨⟨⟨⟨⟨h1, h2⟩, h3⟩, h4⟩, h5⟩, h6⟩, h7⟩, h8⟩, h9⟩ := h
  have hb : env.blockKind = .function := by unfold Env.blockKind; rw [hx, h7]; rfl
  have k1 : env.kindOf x = some .local := by show env.scope.names.lookup x = _; rw [hx]; exact h1
  have k2 : env.kindOf y = some .local := by show env.scope.names.lookup y = _; rw [hx]; exact h2
  have ne : ¬ y = x := fun z => by
    rw [z] at h4
    simp at h4
  have l1 : px.line = py.line := h3
  have dd : [x, y].eraseDups = [x, y] := by
    simp [List.eraseDups_cons, List.filter_cons, ne]
  unfold swappedStores
  simp [hb, k1, k2, h3, dd, h8, h9, Expr.pos]
  intro hz
  exfalso
  rcases hz with hz | hz
  · revert hz h5
    cases a <;> simp [notStar]
  · revert hz h6
    cases b <;> simp [notStar]
/-- x, y = a, b -/
theorem s_par {X : Cx} {E : XK} {i j : Nat} {x y : Str} {a b : Expr} {ms : Mw (List Wv)} {px py pt pos : Pos} {kt k2 pt2} (hc : X.calm = true) (hN : X.N.Nodup) (hi : X.N[i]? = some x) (hj : X.N[j]? = some y) (hij : i ≠ j)
    (hx : X.env.scope.names.lookup x = some .local) (hy : X.env.scope.names.lookup y = some .local) (ha : PA X [a, b] (tWs T E ms))
    (hw : swappedStores [.Tuple [.Name x px, .Name y py] kt pt] (.Tuple [a, b] k2 pt2) X.env = pure (some [x, y])) :
    PS X (.Assign [.Tuple [.Name x px, .Name y py] kt pt] (.Tuple [a, b] k2 pt2) pos) (tSt T E fun r S => (ms r S).bind fun ws S1 => match ws with
      | [u, v] => if i < r.length ∧ j < r.length then .ok (.nx ((r.set i u).set j v)) S1 else .bad
      | _ => .bad) := (ps_par (py := py) hc hN hi hj hij hx hy ha hw rfl).weak fun D s H ⟨S, is, r, hS, hr, hp⟩ => by
  refine ⟨S, is, r, hS, hr, R.post_mono (R.post_bind hp) (fun ws S1 q is1 H1 vs h1 f hws => ?_) fun _ _ _ z => z⟩
  split at q
  · rename_i u v
    obtain ⟨p, t, rfl, h2, h3⟩ := (show ∃ y r, vs = y :: r ∧ RW T is1 H1 u y ∧ RWs T is1 H1 [v] r by unfold RWs at hws; exact hws)
    obtain ⟨p2, t2, rfl, h4, h5⟩ := (show ∃ y r, t = y :: r ∧ RW T is1 H1 v y ∧ RWs T is1 H1 [] r by unfold RWs at h3; exact h3)
    unfold RWs at h5
    subst h5
    refine ⟨p, p2, rfl, ?_⟩
    split at q
    · exact q is1 H1 h1 f _ (((hr.fr hS f).set h2).set h4)
    · exact q.elim
  · exact q.elim
theorem bnd_id {a : Type} (m : R a) {k : a → Sto → R a} (h : ∀ v S, k v S = .ok v S) : m.bind k = m := by
  cases m with
  | ok v S => exact h v S
  | exc c v S => rfl
  | bad => rfl
theorem pat_ok {X : Cx} {E : XK} {sc : Scope} {co : List Str} (O : Cok T P TD G CX k N sc co X E) {p : Pt} {pat : Pattern} (h : patB N sc co p pat = true) : PatR T X pat p := by
  unfold patB at h
  split at h
  · exact pat_wild
  · cases eq_of h
    exact pat_lit O.W.hK O.W.unit
  · rw [Bool.and_eq_true] at h
    obtain ⟨h1, h2⟩ := h
    cases eq_of h1
    unfold storeB at h2
    simp only [Bool.and_eq_true, Bool.or_eq_true, beq_iff_eq] at h2
    obtain ⟨h3, h4⟩ := h2
    refine pat_pair O.W.hK O.W.unit O.W.calm (by rw [O.n]; exact h3) ?_ ?_
    · rw [O.sc]
      rcases h4 with h4 | h4
      · exact .inl h4
      · exact .inr h4.1
    · rw [O.sc]
      rcases h4 with h4 | h4
      · exact .inr h4
      · exact .inl (O.W.cel _ (List.contains_iff_mem.mp h4.2))
  · cases h
mutual
theorem st_ok : ∀ (s : S) {st : Stmt} {X : Cx} {E : XK} {sc : Scope} {co : List Str}, Cok T P TD G CX k N sc co X E → chkS G P N sc co s st = true → PS X st (tSt T E (exS P (callN P k) s))
  | .asg g e, st, X, E, sc, co, O, h => by
    unfold chkS at h
    split at h
    · rename_i tg v pos
      rw [Bool.or_eq_true] at h
      rcases h with h | h
      · simp only [Bool.and_eq_true] at h
        obtain ⟨⟨⟨⟨h1, h2⟩, h3⟩, h4⟩, h5⟩ := h
        exact ps_to (s_asg O.W.hK (e_ok e O h2) (g_ok O g h1) (swap_b O.sc h5) (stores_none h4) h3) fun r S => by rw [exS] <;> rfl
      · split at h
        · rename_i i bx own g' it cond c y py elt tg' iter ifs scope p2
          simp only [Bool.and_eq_true, decide_eq_true_eq, Bool.not_eq_true', beq_iff_eq] at h
          obtain ⟨⟨⟨⟨⟨⟨⟨⟨⟨⟨⟨⟨⟨a1, a2⟩, a3⟩, a4⟩, a5⟩, h1⟩, h2⟩, h3⟩, h4⟩, h5⟩, h6⟩, h7⟩, h8⟩, h9⟩ := h
          obtain ⟨b1, b2⟩ := blk_ok h1 O.sc O.n
          refine ps_to (s_setLc (own := ownOf N own) (cond := fun r S2 => evAll P (callN P k) cond r S2) (me := fun r S2 => ev P (callN P k) c r S2) (mi := fun r S2 => evI P (callN P k) it r S2) (bx := bx) (g := g') O.W.hK O.W.calm O.W.nd (by rw [O.n]; exact a1) (by rw [O.sc]; exact a2) (sw_true (by rw [O.sc]; exact a3) (by rw [O.sc]; exact a2) (by rw [beq_iff_eq]; exact a4) a5) (i_ok it O h4) b1 (fun sh H C cl fp => g_ok (O.blk sh H _ cl C fp) g' h5) (fun sh H C cl fp => ?_) (fun sh H C cl fp => e_ok c (O.blk sh H _ cl C fp) h9) (fun x => not_set h2) fun i hi => ?_) fun r S => ?_
          · exact ts_ok cond (O.blk sh H _ cl C fp) h8 h7 h6
          · rw [b2]
            exact List.contains_iff_mem.mp (List.all_eq_true.mp h3 i hi)
          · rw [exS, ev, b2]
            show R.bind (R.bind _ _) _ = R.bind (R.bind _ _) _
            rw [R.bind_assoc, R.bind_assoc]
            congr 1
            funext j S1
            by_cases z : j.xs.length ≤ line
            · rw [if_pos z, if_pos z, R.bind_assoc]
              congr 1
              funext ys S2
              congr 1
              funext w S3
              rw [bindG]
              by_cases zz : i < r.length
              · rw [if_pos zz, if_pos zz]
              · rw [if_neg zz, if_neg zz]
            · rw [if_neg z, if_neg z]; rfl
        · cases h
    · cases h
  | .par i j a b, st, X, E, sc, co, O, h => by
    unfold chkS at h
    split at h
    · rename_i x px y py kt pt u v k2 pt2 pos
      simp only [Bool.and_eq_true, beq_iff_eq, Bool.not_eq_true'] at h
      obtain ⟨⟨⟨⟨⟨h1, h2⟩, h3⟩, h4⟩, h5⟩, h6⟩ := h
      have h4' := h4
      unfold parB at h4
      simp only [Bool.and_eq_true, beq_iff_eq, Bool.not_eq_true'] at h4
      have ij : i ≠ j := fun z => by rw [z] at h3; simp at h3
      refine ps_to (s_par (i := i) (j := j) (ms := fun r S => evs P (callN P k) [a, b] r S) O.W.calm O.W.nd (by rw [O.n]; exact h1) (by rw [O.n]; exact h2) ij (by rw [O.sc]; exact h4.1.1.1.1.1.1.1.1) (by rw [O.sc]; exact h4.1.1.1.1.1.1.1.2) ?_ (par_sw O.sc h4')) fun r S => ?_
      · exact as_ok [a, b] O (by simp [chkEs, h5, h6]) (by simp [h4.1.1.1.1.2, h4.1.1.1.2])
      · rw [exS]
        unfold evs evs evs
        simp only [R.bind_assoc, R.bind_ok]
    · cases h
  | .seti o i e, st, X, E, sc, co, O, h => by
    unfold chkS at h
    split at h
    · simp only [Bool.and_eq_true] at h
      obtain ⟨⟨⟨h1, h2⟩, h3⟩, h4⟩ := h
      refine ps_to (s_seti (T := T) (by have := O.W.unit; omega) (e_ok o O h2) (e_ok i O h3) (e_ok e O h4) ?_ (stores_none (by rfl)) h1) fun r S => by rw [exS] <;> rfl
      rw [swaps_one]
      exact swap_far rfl
    · cases h
  | .seta o f e, st, X, E, sc, co, O, h => by
    unfold chkS at h
    split at h
    · simp only [Bool.and_eq_true, beq_iff_eq] at h
      obtain ⟨⟨h1, h2⟩, h3⟩ := h
      cases O.g.an _ _ h1
      exact ps_to (s_seta O.W.hK O.W.tb (e_ok o O h2) (e_ok e O h3) (swap_far rfl)) fun r S => by rw [exS] <;> rfl
    · cases h
  | .ex e, st, X, E, sc, co, O, h => by
    unfold chkS at h
    split at h
    · simp only [Bool.and_eq_true] at h
      exact ps_to (s_ex (e_ok e O h.2) (swap_ok h.1)) fun r S => by rw [exS] <;> rfl
    · cases h
  | .ret e, st, X, E, sc, co, O, h => by
    unfold chkS at h
    split at h
    · exact ps_to (s_ret (e_ok e O h)) fun r S => by rw [exS] <;> rfl
    · split at h
      · exact ps_to s_retN fun r S => by rw [exS, ev] <;> rfl
      · cases h
    · cases h
  | .ite t a b, st, X, E, sc, co, O, h => by
    unfold chkS at h
    split at h
    · simp only [Bool.and_eq_true] at h
      obtain ⟨⟨⟨h1, h2⟩, h3⟩, h4⟩ := h
      exact ps_to (s_if (t_ok t O h2 h1) (bl_ok a O h3) (bl_ok b O h4)) fun r S => by rw [exS] <;> rfl
    · cases h
  | .for_ g it b, st, X, E, sc, co, O, h => by
    unfold chkS at h
    split at h
    · simp only [Bool.and_eq_true] at h
      obtain ⟨⟨⟨h1, h2⟩, h3⟩, h4⟩ := h
      exact ps_to (s_for O.W.hK O.W.own O.W.calm (i_ok it O h2) (g_ok O g h3) (bl_ok b O h4) (fun x => not_set h1)) fun r S => by rw [exS] <;> rfl
    · cases h
  | .nx, st, X, E, sc, co, O, h => by
    unfold chkS at h
    split at h
    · exact ps_to s_nx fun r S => by rw [exS] <;> rfl
    · exact ps_to s_doc fun r S => by rw [exS] <;> rfl
    · cases h
  | .brk, st, X, E, sc, co, O, h => by
    unfold chkS at h
    split at h
    · exact ps_to s_brk fun r S => by rw [exS] <;> rfl
    · cases h
  | .cont, st, X, E, sc, co, O, h => by
    unfold chkS at h
    split at h
    · exact ps_to s_cont fun r S => by rw [exS] <;> rfl
    · cases h
  | .never, st, X, E, sc, co, O, h => ps_to s_never fun r S => by rw [exS] <;> rfl
  | .mat i p a b, st, X, E, sc, co, O, h => by
    unfold chkS at h
    split at h
    · rename_i x px pat body cs pos
      simp only [Bool.and_eq_true] at h
      obtain ⟨⟨⟨⟨⟨h1, h2⟩, h3⟩, h4⟩, h5⟩, h6⟩ := h
      have hv : PE X (.Name x px) (tW T E fun r S => getV r i S) := pe_to (e_ok (.v i) O (by unfold chkE; simp only [Bool.and_eq_true]; exact ⟨⟨h1, h2⟩, h3⟩)) fun r S => by rw [ev]
      exact ps_to (s_mat hv (mc_cons O.W.nd (pat_ok O h4) (bl_ok a O h5) (mc_ok b O h6))) fun r S => by rw [exS] <;> rfl
    · cases h
theorem mc_ok : ∀ (ss : List S) {i : Nat} {cs : List MatchCase} {X : Cx} {E : XK} {sc : Scope} {co : List Str}, Cok T P TD G CX k N sc co X E → chkM G P N sc co ss i cs = true → MCs T E X cs i (exB P (callN P k) ss)
  | [], i, cs, X, E, sc, co, O, h => by
    unfold chkM at h
    cases List.isEmpty_iff.mp h
    exact mc_to mc_nil fun r S => by rw [exB] <;> rfl
  | s :: ss, i, cs, X, E, sc, co, O, h => by
    unfold chkM at h
    split at h
    · rename_i j p a b
      split at h
      · rename_i pat body cs
        simp only [Bool.and_eq_true, beq_iff_eq] at h
        obtain ⟨⟨⟨⟨h1, h2⟩, h4⟩, h5⟩, h6⟩ := h
        subst h1
        cases List.isEmpty_iff.mp h2
        refine mc_to (mc_cons O.W.nd (pat_ok O h4) (bl_ok a O h5) (mc_ok b O h6)) fun r S => ?_
        rw [exB, exS]
        refine (R.bind_assoc _ _ _).trans ?_
        congr 1
        funext w S1
        exact bnd_id _ fun f S2 => by cases f <;> rfl
      · cases h
    · cases h
theorem bl_ok : ∀ (ss : List S) {sts : List Stmt} {X : Cx} {E : XK} {sc : Scope} {co : List Str}, Cok T P TD G CX k N sc co X E → chkB G P N sc co ss sts = true → PSs X sts (tSt T E (exB P (callN P k) ss))
  | [], sts, X, E, sc, co, O, h => by
    unfold chkB at h
    cases List.isEmpty_iff.mp h
    exact pss_to s_nil fun r S => by rw [exB] <;> rfl
  | s :: ss, sts, X, E, sc, co, O, h => by
    unfold chkB at h
    split at h
    · rw [Bool.and_eq_true] at h
      exact pss_to (s_cons (st_ok s O h.1) (bl_ok ss O h.2)) fun r S => by rw [exB] <;> rfl
    · cases h
end
end Pe

set_option Elab.async false
set_option linter.all false
set_option maxRecDepth 100000
set_option maxHeartbeats 1000000
/-! All defs of a program keep their promise; what a law row asks. -/
namespace Pe
open PySem PySem.Spec PyProof.Rows L2

/-- something about each def, by its place -/
inductive AllD (p : Nat → Dd → Prop) : Nat → List Dd → Prop where
  | nil {n : Nat} : AllD p n []
  | cons {n : Nat} {d : Dd} {ds : List Dd} : p n d → AllD p (n + 1) ds → AllD p n (d :: ds)
theorem AllD.get {p : Nat → Dd → Prop} : ∀ {n : Nat} {ds : List Dd}, AllD p n ds → ∀ {i : Nat} {d : Dd}, ds[i]? = some d → p (n + i) d
  | _, _, .nil, i, d, e => by simp at e
  | n, _, .cons h t, 0, d, e => by
    cases e
    exact h
  | n, _, .cons h t, i + 1, d, e => by
    have := t.get (i := i) (d := d) e
    rw [show n + (i + 1) = n + 1 + i by omega]
    exact this
/-- a def of the text, and its core -/
structure Def1 (K : PySem.W.Frag) (P : Pg) (G : Ge) (i : Nat) (d : Dd) : Prop where
  ex : ∃ e, DdOk K P i d e ∧ chkB G P d.N (defScope d.st) (cellsOf (defScope d.st)) e.body (defBody d.st) = true
section
variable {T : Tb} {P : Pg} {TD : Nat → Option Dd} {G : Ge} {Pr : Program} {w : World} {K : PySem.W.Frag} {mg : Str → Option Value} {base : Heap}
theorem runs_all (hK : T.K = K) (tb : TbOk T P) (g : Gok T P TD G mg) (all : ∀ i d, TD i = some d → Def1 K P G i d) : ∀ (k i : Nat) (d : Dd), TD i = some d → Runs T P Pr w K mg base CX0 k i d
  | 0, i, d, h => by
    obtain ⟨e, ok, _⟩ := (all i d h).ex
    exact runs_zero ok
  | k + 1, i, d, h => by
    obtain ⟨e, ok, hc⟩ := (all i d h).ex
    refine runs_of ok fun cdv A outer s H E hr hg => ?_
    refine bl_ok (G := G) (TD := TD) (CX := CX0) (N := d.N) (sc := defScope d.st) (co := cellsOf (defScope d.st)) e.body ⟨?_, g, rfl, rfl⟩ hc
    exact {
      hK := hK.symm
      calm := rfl
      grd := hg
      room := hr
      nd := ok.sc.nd
      cel := fun _ _ => rfl
      own := passes_of rfl
      pass := pass0
      none := fun _ _ _ _ _ z => z
      up := StX.cxUp_none
      tb := tb
      defs := fun j d' h' => let ⟨e', ok', _⟩ := (all j d' h').ex; ⟨e', ok'⟩
      runs := fun j d' h' => runs_all hK tb g all k j d' h' }
/-- nothing but the script may be told of -/
def Bare (K : PySem.W.Frag) (a : Addr) (H : Hp) : Prop := ∀ b, H b = none ∨ (b = a ∧ K.lookup a = none ∧ ∃ o xs, H b = some (.frz o (.lst xs)))
/-- the law's def is called with the script -/
theorem end_core {mb : Str → Option Value} {i k : Nat} {d : Dd} {e : Fd} {a : Addr} {s : Shared} {vs : List Value} {ns : List Int} {H : Hp} (KX : K.In s.heap) (hns : s.heap.Ns mainGlobals mg) (hb : s.heap.Ns builtinsNs mb) (hbb : ∀ x : Str, x ≠ "__name__" → mb x = bootBuiltins x) (hlim : s.heap.NoLimit) (hg : s.gens = #[])
    (hx : s.heap.get? a = some { cls := .type "list", data := .seq vs.toArray }) (hr : Room (2 * k + 1) callerA) (ok : DdOk K P i d e) (F : ∀ base : Heap, K.In base → base.Ns mainGlobals mg → Runs T P Pr w K mg base CX0 k i d)
    (hB : Bare K a H) (hok : HOk Pr w H s.heap) (hS : RW T [] H (.scr (ns.map Wv.int)) (.ref a)) (res : (callN P k i [.scr (ns.map Wv.int)] []).post (fun v _ => v = .bl true) fun _ _ _ => False) :
    codeAny (model Pr w) callerA (.call (.ref d.f) ⟨[.ref a], []⟩) (fun r s' => r = .ok (.ret (.bool true)) ∧ OldK s.heap s'.heap ∧ s'.os = s.os ∧ AllBare s'.gens) s := by
  have low : ∀ {b : Addr} {o : Obj}, s.heap.get? b = some o → H b = none → (hidT s.heap H).get? b = some o := fun q n => hidT_get q n
  have off : ∀ {b : Addr} {o : Obj} {es : Array DictEntry} {ep : Nat}, s.heap.get? b = some o → o.data = .dict es ep → H b = none := fun {b o es ep} q dd => by
    rcases hB b with z | ⟨z, _, _⟩
    · exact z
    · subst z
      rw [hx] at q
      cases q
      exact absurd (show Data.seq vs.toArray _ = Data.dict es ep from dd) (fun z => by cases z)
  have nss : ∀ {b : Addr} {m : Str → Option Value}, s.heap.Ns b m → (hidT s.heap H).Ns b m := fun {b m} ⟨o, es, ep, q, dd, r⟩ => ⟨o, es, ep, low q (off q dd), dd, r⟩
  have kin : K.In (hidT s.heap H) := fun b o q => low (KX b o q) (by
    rcases hB b with z | ⟨z, z2, _⟩
    · exact z
    · subst z
      rw [z2] at q
      cases q)
  have hM : Mod K mg (hidT s.heap H) := by
    obtain ⟨mc, h1, h2⟩ := hlim
    exact ⟨kin, nss hns, ⟨mb, nss hb, hbb⟩, ⟨mc, nss h1, h2⟩⟩
  have e0 : Env0 Pr w K mg (hidT s.heap H) callerA [] s H := {
    frames := rfl
    mod := hM
    bs := fun b o q => of_hidT q
    bsz := Nat.le_of_eq (hidT_size _ _)
    funs := trivial
    frf := fun b hb => absurd (show b ∈ ([] : List Addr) from hb) (by simp)
    hok := hok
    bare := .of_eq hg }
  have r0 : RS T [] [] H := ⟨rfl, fun l l' a' ob ob' h1 => by simp at h1, fun l ob a' h1 => by simp at h1⟩
  refine codeAny_mono (runs_at (Q := fun v _ => v = .bl true) (E := fun _ _ _ => False) (us := [.ref a]) (vs := [.ref a]) (F _ kin (nss hns)) ok StX.cxUp_none hr rfl e0 (.cons rfl .nil) ⟨[], [], [.scr (ns.map Wv.int)], r0, .cons hS .nil, R.post_mono res (fun v S q is' H' v' h1 f hv => ?_) fun _ _ _ z => z.elim⟩) fun r s' h => ?_
  · subst q
    exact RW.inj_bl hv
  · cases r with
    | error e => exact False.elim h
    | ok fl =>
      cases fl with
      | ret u =>
        obtain ⟨v, H', os, bare, un, hok', r', q⟩ := h
        obtain rfl : v = .bl true := q
        obtain rfl : u = Value.bool true := r'
        refine ⟨rfl, OldK.of_keep fun b o q => ?_, os, bare⟩
        rcases hB b with z | ⟨_, _, ob, xs, z⟩
        · exact un.keep b o q z (by intro z; exact absurd (show b ∈ ([] : List Addr) from z) (by simp)) (by simp)
        · have z2 := un.frzs b ob _ z
          have e1 := (hok b _ z).1
          have e2 := (hok' b _ z2).1
          rw [q] at e1
          cases e1
          exact e2
      | next => exact False.elim h
      | brk => exact False.elim h
      | cont => exact False.elim h
theorem ints_rw {is : List Addr} {H : Hp} : ∀ ns : List Int, RWs T is H (ns.map Wv.int) (ns.map V.int)
  | [] => .nil
  | n :: ns => .cons rw_int (ints_rw ns)
theorem end_call {mb : Str → Option Value} {i k : Nat} {d : Dd} {e : Fd} {a : Addr} {s : Shared} {vs : List Value} {ns : List Int} (hK : T.K = K) (KX : K.In s.heap) (hns : s.heap.Ns mainGlobals mg) (hb : s.heap.Ns builtinsNs mb) (hbb : ∀ x : Str, x ≠ "__name__" → mb x = bootBuiltins x) (hlim : s.heap.NoLimit) (hg : s.gens = #[])
    (hx : s.heap.get? a = some { cls := .type "list", data := .seq vs.toArray }) (hi : IntsAre vs ns) (hl : ns.length ≤ sizeLine) (hr : Room (2 * k + 1) callerA) (ok : DdOk K P i d e) (F : ∀ base : Heap, K.In base → base.Ns mainGlobals mg → Runs T P Pr w K mg base CX0 k i d)
    (res : (callN P k i [.scr (ns.map Wv.int)] []).post (fun v _ => v = .bl true) fun _ _ _ => False) :
    codeAny (model Pr w) callerA (.call (.ref d.f) ⟨[.ref a], []⟩) (fun r s' => r = .ok (.ret (.bool true)) ∧ OldK s.heap s'.heap ∧ s'.os = s.os ∧ AllBare s'.gens) s := by
  have rv := vals_ints hi
  have lv := hi.length
  cases hk : K.lookup a with
  | some o =>
    have q := KX a o hk
    rw [hx] at q
    cases q
    refine end_core (H := fun _ => none) KX hns hb hbb hlim hg hx hr ok F (fun _ => .inl rfl) (fun b u z => by cases z) ?_ res
    unfold RW
    exact ⟨a, _, rfl, .inr ⟨_, vs.toArray, _, hK ▸ hk, rfl, rfl, rfl, by rw [List.size_toArray, lv]; exact hl, by simpa using rv⟩, ints_rw ns⟩
  | none =>
    have at1 : ∀ {u : HO}, (fun b => if b = a then some (HO.frz { cls := .type "list", data := .seq vs.toArray } (.lst (ns.map V.int))) else none) a = some u → u = .frz { cls := .type "list", data := .seq vs.toArray } (.lst (ns.map V.int)) := fun z => by
      simp at z
      exact z.symm
    refine end_core (H := fun b => if b = a then some (.frz { cls := .type "list", data := .seq vs.toArray } (.lst (ns.map V.int))) else none) KX hns hb hbb hlim hg hx hr ok F (fun b => ?_) (fun b u z => ?_) ?_ res
    · by_cases q : b = a
      · exact .inr ⟨q, hk, _, _, if_pos q⟩
      · exact .inl (if_neg q)
    · by_cases q : b = a
      · subst q
        obtain rfl := at1 z
        exact ⟨hx, by rw [List.length_map]; exact hl, vs, _, rv, hx⟩
      · have z' := (if_neg q).symm.trans z
        cases z'
    · unfold RW
      exact ⟨a, _, rfl, .inl ⟨_, if_pos rfl⟩, ints_rw ns⟩
end
theorem room_caller {k : Nat} (hk : k ≤ 100) : Room (2 * k + 1) callerA := by
  have h1 : callerA.depth ≤ 310 := by decide
  have h2 : callerA.units ≤ 1000 := by decide
  have h3 : recursionLimit = 1000 := rfl
  have h4 : cLine = 9900 := rfl
  exact ⟨rfl, by omega, by omega⟩
/-- what k_head leaves, from the defs' promises -/
theorem walk {l : PySem.W.OpenLaw} {k : Nat} {q : Program} {loose : List Str} {XP : (Str → Option Value) → Heap → Prop} {YP : World → Heap → Prop} {d : DefRec} {K : Params → PySem.W.Frag} (hn : l.most = some 63) (hdf : d.params.defaults = []) (hk : k ≤ 100)
    (hY : ∀ (w : World) (h : Heap), YP w h → (K w.params).In h)
    (F : ∀ (w : World) (mg : Str → Option Value) (fa : Addr) (h : Heap), (K w.params).In h → h.Ns mainGlobals mg → mg d.name = some (.ref fa) →
      ∃ (T : Tb) (P : Pg) (i : Nat) (dd : Dd) (e : Fd), T.K = K w.params ∧ dd.f = fa ∧ DdOk (K w.params) P i dd e ∧ (∀ base : Heap, (K w.params).In base → base.Ns mainGlobals mg → Runs T P l.prog w (K w.params) mg base CX0 k i dd) ∧
        ∀ ns : List Int, ns.length ≤ 63 → (callN P k i [.scr (ns.map Wv.int)] []).post (fun v _ => v = .bl true) fun _ _ _ => False) :
    PySem.W.WalkO q loose XP YP l.row.toRowW d [] (fun f vs => PySem.call f vs) := by
  refine Att.attach_call hn hdf fun w s₀ s₁ mg mb fa o pm cd doc a vs ns G Y ho hd hcd hmg hobj hints hlen hg => ?_
  have KX := hY w _ Y
  obtain ⟨T, P, i, dd, e, hK, rfl, ok, R, res⟩ := F w mg fa _ KX G.T.g hmg
  exact end_call hK KX G.T.g G.T.b G.T.builtins G.T.nolimit hg hobj hints (Nat.le_trans hlen (by decide)) (room_caller hk) ok R (res ns hlen)
end Pe

set_option Elab.async false
set_option linter.all false
set_option maxRecDepth 100000
/-! Tables: names, and what holds at each row of one. -/
namespace Pe
open PySem PySem.Spec PyProof.Rows L2

inductive AllL {α β : Type} (p : α → β → Prop) : List (α × β) → Prop where
  | nil : AllL p []
  | cons {a : α} {b : β} {l : List (α × β)} : p a b → AllL p l → AllL p ((a, b) :: l)
theorem AllL.get {α β : Type} [BEq α] [LawfulBEq α] {p : α → β → Prop} : ∀ {l : List (α × β)}, AllL p l → ∀ {a : α} {b : β}, l.lookup a = some b → p a b
  | _, .nil, a, b, e => by simp at e
  | _, .cons (a := c) (b := d) h t, a, b, e => by
    rw [List.lookup_cons] at e
    cases q : a == c with
    | true =>
      rw [q] at e
      cases e
      rw [beq_iff_eq.mp q]
      exact h
    | false =>
      rw [q] at e
      exact t.get e
inductive All1 {α : Type} (p : α → Prop) : List α → Prop where
  | nil : All1 p []
  | cons {a : α} {l : List α} : p a → All1 p l → All1 p (a :: l)
theorem All1.get {α : Type} {p : α → Prop} : ∀ {l : List α}, All1 p l → ∀ {a : α}, a ∈ l → p a
  | _, .nil, a, e => by simp at e
  | _, .cons h t, a, e => by
    rcases List.mem_cons.mp e with rfl | e
    · exact h
    · exact t.get e
/-- attributes by numbers; what has none gets a long name -/
def long (i : Nat) : Str := ⟨(List.replicate (1000 + i) 97).toArray⟩
def anOf (L : List Str) (i : Nat) : Str := (L[i]?).getD (long i)
theorem an_at {L : List Str} {i : Nat} {x : Str} (h : L[i]? = some x) : anOf L i = x := by
  unfold anOf
  rw [h]
  rfl
theorem long_len (i : Nat) : (long i).cps.size = 1000 + i := by
  unfold long
  simp
theorem an_inj {L : List Str} (nd : L.Nodup) (sm : ∀ x ∈ L, x.cps.size < 1000) : ∀ i j, anOf L i = anOf L j → i = j := fun i j h => by
  unfold anOf at h
  cases ei : L[i]? with
  | some x =>
    cases ej : L[j]? with
    | some y =>
      rw [ei, ej] at h
      have h' : x = y := h
      subst h'
      exact (List.getElem?_inj (List.getElem?_eq_some_iff.mp ei).1 nd).mp (ei.trans ej.symm)
    | none =>
      rw [ei, ej] at h
      have h' : x = long j := h
      have := sm x (List.mem_of_getElem? ei)
      rw [h', long_len] at this
      omega
  | none =>
    cases ej : L[j]? with
    | some y =>
      rw [ei, ej] at h
      have h' : long i = y := h
      have := sm y (List.mem_of_getElem? ej)
      rw [← h', long_len] at this
      omega
    | none =>
      rw [ei, ej] at h
      have h' : long i = long j := h
      have := congrArg (fun z : Str => z.cps.size) h'
      simp only [long_len] at this
      omega
/-- a def's entry -/
theorem def1 {K : PySem.W.Frag} {P : Pg} {G : Ge} {i : Nat} {d : Dd} (e : Fd) (fn : P.fn i = some e) (fu : Fun K d.x d.qual d.st d.f d.fd) (sc : FnScope d.N d.ps (defScope d.st)) (ns : d.N.length = e.ns) (np : d.ps.length = e.np + (if e.kw = true then 1 else 0)) (bd : BindOk K d e.kw)
    (ck : chkB G P d.N (defScope d.st) (cellsOf (defScope d.st)) e.body (defBody d.st) = true) : Def1 K P G i d := ⟨e, ⟨fn, fu, sc, ns, np, bd⟩, ck⟩
theorem rel_str {x : Str} {t : Tok} : RelV (.str x) (.str x t) := ⟨t, rfl⟩
theorem rel_int {x : Int} {t : Tok} : RelV (.int x) (.int x t) := ⟨t, rfl⟩
theorem rel_ref {x : Addr} : RelV (.ref x) (.ref x) := rfl
theorem rw_cls {T : Tb} {is : List Addr} {H : Hp} {c : Nat} {a : Addr} (h : T.ca c = a) : RW T is H (.cls c) (.ref a) := by
  unfold RW
  rw [h]
end Pe

set_option Elab.async false
set_option linter.all false
set_option maxRecDepth 100000
/-! Running the evaluator on core texts. -/
namespace Pe
open PySem L2
@[simp] theorem q_bind {a b : Type} (v : a) (S : Sto) (f : a → Sto → R b) : (R.ok v S).bind f = f v S := rfl
@[simp] theorem q_some {a : Type} (v : a) (S : Sto) : R.of (some v) S = .ok v S := rfl
@[simp] theorem q_none {a : Type} (S : Sto) : R.of (none : Option a) S = .bad := rfl
@[simp] theorem R.bind_bad {a b : Type} (f : a → Sto → R b) : (R.bad : R a).bind f = .bad := rfl
@[simp] theorem getV_some {r : Ev} {i : Nat} {S : Sto} {w : Wv} (h : r[i]? = some w) (n : w ≠ .unb) : getV r i S = .ok w S := by
  unfold getV
  rw [h]
  cases w <;> first | rfl | exact absurd rfl n
theorem call_eq {P : Pg} {g : Nat} {e : Fd} {n : Nat} {ws : List Wv} {S : Sto} (h : P.fn g = some e) (kw : e.kw = false) (hl : ws.length = e.np) (hn : e.np ≤ e.ns) :
    callN P (n + 1) g ws S = (exB P (callN P n) e.body (ws ++ List.replicate (e.ns - e.np) .unb) S).bind fun f S1 => backF S.length f S1 := by
  unfold callN
  rw [h]
  dsimp only
  rw [if_pos hl, kw, if_neg Bool.false_ne_true, bodyN_succ, h]
  dsimp only
  rw [if_pos (by omega), hl]
  rfl
theorem call_kw {P : Pg} {g : Nat} {e : Fd} {n : Nat} {ws : List Wv} {S : Sto} (h : P.fn g = some e) (kw : e.kw = true) (hl : ws.length = e.np) (hn : e.np + 1 ≤ e.ns) :
    callN P (n + 1) g ws S = (exB P (callN P n) e.body (ws ++ [.ref S.length] ++ List.replicate (e.ns - e.np - 1) .unb) (S ++ [.dic []])).bind fun f S1 => backF S.length f S1 := by
  unfold callN
  rw [h]
  dsimp only
  rw [if_pos hl, kw, if_pos rfl, bodyN_succ, h]
  dsimp only
  rw [if_pos (by rw [List.length_append, List.length_singleton]; omega), List.length_append, List.length_singleton, hl, Nat.sub_add_eq]
  rfl
theorem sweep_same {n : Nat} {v : Wv} {S : Sto} (h : S.length ≤ n) : sweep n v S = S := by
  unfold sweep
  split
  · exact List.take_of_length_le h
  · rfl
/-- the first n objects lead to none but themselves -/
def Cl (S : Sto) : Prop := S.all (Ob.under S.length) = true
theorem sweep_cut {v : Wv} {S E : Sto} (h : Cl S) (u : under S.length v = true) : sweep S.length v (S ++ E) = S := by
  unfold sweep
  rw [List.take_left' rfl, if_pos ⟨u, h⟩]
end Pe

set_option Elab.async false
set_option linter.all false
set_option maxRecDepth 100000
/-! Plain values: their size, their text. -/
namespace Pe
open PySem L2
mutual
/-- data whose leaves are small -/
def gd : Wv → Bool
  | .non => true
  | .bl _ => true
  | .int i => decide (i.natAbs < 10 ^ 50)
  | .str x => x.cps.all (· < 0x110000)
  | .tup xs => gds xs
  | .lst xs => gds xs
  | .unb => false
  | .ref _ => false
  | .cls _ => false
  | .scr _ => false
def gds : List Wv → Bool
  | [] => true
  | x :: xs => gd x && gds xs
end
mutual
def dep : Wv → Nat
  | .tup xs => deps xs + 1
  | .lst xs => deps xs + 1
  | _ => 0
def deps : List Wv → Nat
  | [] => 0
  | x :: xs => max (dep x) (deps xs)
end
mutual
def wei : Wv → Nat
  | .int _ => 170
  | .str x => x.length
  | .tup xs => weis xs
  | .lst xs => weis xs
  | _ => 0
def weis : List Wv → Nat
  | [] => 0
  | x :: xs => wei x + 1 + weis xs
end
theorem pow_50 : (10 : Nat) ^ 50 < 2 ^ 169 := by decide +kernel
theorem int_small {i : Int} (h : i.natAbs < 10 ^ 50) : i.natAbs.log2 < 169 := by
  by_cases z : i.natAbs = 0
  · rw [z]
    decide
  · exact (Nat.log2_lt z).mpr (Nat.lt_trans h pow_50)
mutual
theorem gd_ok : ∀ v : Wv, gd v = true → v.dat = true ∧ v.toD.canLay0 = true ∧ v.toD.showable = true ∧ v.toD.leavesShort 60 = true ∧ v.toD.depth = dep v ∧ v.toD.weight ≤ wei v
  | .non, _ => by simp [Wv.dat, Wv.toD, PyData.canLay0, PyData.showable, PyData.leavesShort, PyData.depth, PyData.weight, dep, wei]
  | .bl _, _ => by simp [Wv.dat, Wv.toD, PyData.canLay0, PyData.showable, PyData.leavesShort, PyData.depth, PyData.weight, dep, wei]
  | .int i, h => by
    have h' : i.natAbs < 10 ^ 50 := by simpa [gd] using h
    have h2 := int_small h'
    refine ⟨by simp [Wv.dat], by simp [Wv.toD, PyData.canLay0], by simp [Wv.toD, PyData.showable]; omega, ?_, by simp [Wv.toD, PyData.depth, dep], ?_⟩
    · have := int_text_length_le10 (by decide) h'
      have e : (PyData.shown (.int i)).length = (toString i).length := by
        show (Str.ofString (toString i)).length = _
        rw [ofString_length]
      show (Wv.int i).toD.leavesShort 60 = true
      have e2 : (PyData.shown (.int i)).length ≤ 60 := by rw [e]; omega
      simpa [Wv.toD, PyData.leavesShort] using e2
    · simp only [Wv.toD, PyData.weight, wei]
      split <;> omega
  | .str x, h => by
    have h' : x.cps.all (· < 0x110000) = true := by simpa [gd] using h
    refine ⟨by simp [Wv.dat], by simpa [Wv.toD, PyData.canLay0, PyData.strOk] using h', by simp [Wv.toD, PyData.showable], ?_, by simp [Wv.toD, PyData.depth, dep], by simp [Wv.toD, PyData.weight, wei]; exact Nat.le_refl _⟩
    simp only [Wv.toD, PyData.leavesShort, List.all_eq_true, decide_eq_true_eq]
    intro c hc
    have := (Array.all_eq_true_iff_forall_mem.mp h') c (by simpa using hc)
    have := of_decide_eq_true this
    omega
  | .tup xs, h => by
    obtain ⟨h1, h2, h3, h4, h5, h6⟩ := gds_ok xs (by simpa [gd] using h)
    refine ⟨by simpa [Wv.dat] using h1, by simpa [Wv.toD, PyData.canLay0] using h2, by simpa [Wv.toD, PyData.showable] using h3, by simpa [Wv.toD, PyData.leavesShort] using h4, by simpa [Wv.toD, PyData.depth, dep] using h5, by simpa [Wv.toD, PyData.weight, wei] using h6⟩
  | .lst xs, h => by
    obtain ⟨h1, h2, h3, h4, h5, h6⟩ := gds_ok xs (by simpa [gd] using h)
    refine ⟨by simpa [Wv.dat] using h1, by simpa [Wv.toD, PyData.canLay0] using h2, by simpa [Wv.toD, PyData.showable] using h3, by simpa [Wv.toD, PyData.leavesShort] using h4, by simpa [Wv.toD, PyData.depth, dep] using h5, by simpa [Wv.toD, PyData.weight, wei] using h6⟩
  | .unb, h => by simp [gd] at h
  | .ref _, h => by simp [gd] at h
  | .cls _, h => by simp [gd] at h
  | .scr _, h => by simp [gd] at h
theorem gds_ok : ∀ vs : List Wv, gds vs = true → datAll vs = true ∧ PyData.canLayAll0 (toDs vs) = true ∧ PyData.showableAll (toDs vs) = true ∧ PyData.leavesShortAll 60 (toDs vs) = true ∧ PyData.depthAll (toDs vs) = deps vs ∧ PyData.weightAll (toDs vs) ≤ weis vs
  | [], _ => by simp [datAll, toDs, PyData.canLayAll0, PyData.showableAll, PyData.leavesShortAll, PyData.depthAll, PyData.weightAll, deps, weis]
  | x :: xs, h => by
    simp only [gds, Bool.and_eq_true] at h
    obtain ⟨a1, a2, a3, a4, a5, a6⟩ := gd_ok x h.1
    obtain ⟨b1, b2, b3, b4, b5, b6⟩ := gds_ok xs h.2
    simp only [datAll, toDs, PyData.canLayAll0, PyData.showableAll, PyData.leavesShortAll, PyData.depthAll, PyData.weightAll, deps, weis, Bool.and_eq_true]
    exact ⟨⟨a1, b1⟩, ⟨a2, b2⟩, ⟨a3, b3⟩, ⟨a4, b4⟩, by rw [a5, b5], by omega⟩
end
theorem gds_iff : ∀ {xs : List Wv}, gds xs = true ↔ ∀ x ∈ xs, gd x = true
  | [] => by simp [gds]
  | x :: xs => by simp [gds, gds_iff]
theorem deps_le {n : Nat} : ∀ {xs : List Wv}, deps xs ≤ n ↔ ∀ x ∈ xs, dep x ≤ n
  | [] => by simp [deps]
  | x :: xs => by simp [deps, Nat.max_le, deps_le]
theorem weis_app : ∀ (xs ys : List Wv), weis (xs ++ ys) = weis xs + weis ys
  | [], ys => by simp [weis]
  | x :: xs, ys => by simp [weis, weis_app xs ys]; omega
theorem weis_mem {x : Wv} : ∀ {xs : List Wv}, x ∈ xs → wei x + 1 ≤ weis xs
  | y :: xs, h => by
    simp only [weis]
    rcases List.mem_cons.mp h with rfl | h
    · omega
    · have := weis_mem h
      omega
theorem weis_take (n : Nat) (xs : List Wv) : weis (xs.take n) + weis (xs.drop n) = weis xs := by
  rw [← weis_app, List.take_append_drop]
theorem weis_rev : ∀ xs : List Wv, weis xs.reverse = weis xs
  | [] => rfl
  | x :: xs => by rw [List.reverse_cons, weis_app, weis_rev xs]; simp [weis]; omega
theorem len_weis : ∀ xs : List Wv, xs.length ≤ weis xs
  | [] => Nat.le_refl _
  | x :: xs => by simp only [List.length_cons, weis]; have := len_weis xs; omega
theorem gd_nu {v : Wv} (h : gd v = true) : v ≠ .unb := fun z => by rw [z] at h; simp [gd] at h
theorem gd_view {v : Wv} {S : Sto} (h : gd v = true) : view S v = v := by
  cases v <;> first | rfl | simp [gd] at h
/-- the text of a value -/
theorem repr_ok {v : Wv} {S : Sto} (h : gd v = true) (hd : dep v ≤ 60) (hw : wei v ≤ 200000) : pr1 .repr S v = some (.str v.toD.shown) := by
  obtain ⟨h1, h2, h3, h4, h5, h6⟩ := gd_ok v h
  have := PyData.shown_le 60 (by decide) v.toD h4
  unfold pr1
  dsimp only
  have hz : v.toD.shown.length ≤ line := by
    unfold line sizeLine
    omega
  rw [gd_view h, if_pos ⟨h1, h3, hz, by omega⟩]
/-- t == () -/
theorem ne_nil {xs : List Wv} {S : Sto} (h : gds xs = true) : cmpW .ne S (.tup xs) (.tup []) = some (!xs.isEmpty) := by
  obtain ⟨h1, h2, _⟩ := gds_ok xs h
  have e : eqD (.tup xs) (.tup []) = some xs.isEmpty := by
    unfold eqD
    rw [if_pos ⟨by simpa [Wv.dat] using h1, by simp [Wv.dat, datAll], by simpa [Wv.toD, PyData.canLay0] using h2, by simp [Wv.toD, toDs, PyData.canLay0, PyData.canLayAll0], by simp only [Wv.toD, toDs, PyData.depth, PyData.depthAll]; omega⟩]
    cases xs with
    | nil => simp [Wv.toD, toDs, PyData.eqv, PyData.eqvAll]
    | cons x xs => simp [Wv.toD, toDs, PyData.eqv, PyData.eqvAll]
  show ((eqW S (.tup xs) (.tup [])).map not) = _
  have e2 : eqW S (.tup xs) (.tup []) = eqD (.tup xs) (.tup []) := rfl
  rw [e2, e]
  rfl
theorem eq_nil {xs : List Wv} {S : Sto} (h : gds xs = true) : cmpW .eq S (.tup xs) (.tup []) = some xs.isEmpty := by
  have e := ne_nil (S := S) h
  show eqW S (.tup xs) (.tup []) = _
  have e2 : cmpW .ne S (.tup xs) (.tup []) = (eqW S (.tup xs) (.tup [])).map not := rfl
  rw [e2] at e
  obtain ⟨b, h1, h2⟩ := Option.map_eq_some_iff.mp e
  rw [h1]
  cases b <;> cases hx : xs.isEmpty <;> simp_all
end Pe

set_option Elab.async false
set_option linter.all false
set_option maxRecDepth 100000
/-! Runs of the defs that the laws share. -/
namespace Pe
open PySem L2
@[simp] theorem q_ev1 {P : Pg} {F : Fo} {r : Ev} {S : Sto} {i} : ev P F (.v i : C) r S = (getV r i S) := by rw [ev] <;> rfl
@[simp] theorem q_ev2 {P : Pg} {F : Fo} {r : Ev} {S : Sto} {w} : ev P F (.k w : C) r S = (.ok w S) := by rw [ev] <;> rfl
@[simp] theorem q_ev3 {P : Pg} {F : Fo} {r : Ev} {S : Sto} {o} {a} {b} : ev P F (.bin o a b : C) r S = ((ev P F a r S).bind fun x S1 => (ev P F b r S1).bind fun y S2 => R.of (binW o S2 x y) S2) := by rw [ev] <;> rfl
@[simp] theorem q_ev4 {P : Pg} {F : Fo} {r : Ev} {S : Sto} {o} {a} {b} : ev P F (.cmp o a b : C) r S = ((ev P F a r S).bind fun x S1 => (ev P F b r S1).bind fun y S2 => R.of ((cmpW o S2 x y).map Wv.bl) S2) := by rw [ev] <;> rfl
@[simp] theorem q_ev5 {P : Pg} {F : Fo} {r : Ev} {S : Sto} {o} {p} {a} {b} {c} : ev P F (.cmp2 o p a b c : C) r S = ((ev P F a r S).bind fun x S1 => (ev P F b r S1).bind fun y S2 => match cmpW o S2 x y with
    | none => .bad
    | some false => .ok (.bl false) S2
    | some true => (ev P F c r S2).bind fun z S3 => R.of ((cmpW p S3 y z).map Wv.bl) S3) := by rw [ev] <;> rfl
@[simp] theorem q_ev6 {P : Pg} {F : Fo} {r : Ev} {S : Sto} {a} : ev P F (.not a : C) r S = (((ev P F a r S).bind asBool).bind fun b S1 => .ok (.bl (!b)) S1) := by rw [ev] <;> rfl
@[simp] theorem q_ev7 {P : Pg} {F : Fo} {r : Ev} {S : Sto} {es} : ev P F (.and es : C) r S = ((evAll P F es r S).bind fun b S1 => .ok (.bl b) S1) := by rw [ev] <;> rfl
@[simp] theorem q_ev8 {P : Pg} {F : Fo} {r : Ev} {S : Sto} {es} : ev P F (.or es : C) r S = ((evAny P F es r S).bind fun b S1 => .ok (.bl b) S1) := by rw [ev] <;> rfl
@[simp] theorem q_ev9 {P : Pg} {F : Fo} {r : Ev} {S : Sto} {a} : ev P F (.neg a : C) r S = ((ev P F a r S).bind fun x S1 => match x with
    | .int i => .ok (.int (-i)) S1
    | _ => .bad) := by rw [ev] <;> rfl
@[simp] theorem q_ev10 {P : Pg} {F : Fo} {r : Ev} {S : Sto} {t} {a} {b} : ev P F (.ite t a b : C) r S = (((ev P F t r S).bind asBool).bind fun x S1 => if x = true then ev P F a r S1 else ev P F b r S1) := by rw [ev] <;> rfl
@[simp] theorem q_ev11 {P : Pg} {F : Fo} {r : Ev} {S : Sto} {es} : ev P F (.tup es : C) r S = ((evs P F es r S).bind fun xs S1 => if xs.length ≤ line then .ok (.tup xs) S1 else .bad) := by rw [ev] <;> rfl
@[simp] theorem q_ev12 {P : Pg} {F : Fo} {r : Ev} {S : Sto} {bx} {es} : ev P F (.dsp bx es : C) r S = ((evs P F es r S).bind fun xs S1 => newL bx xs S1) := by rw [ev] <;> rfl
@[simp] theorem q_ev13 {P : Pg} {F : Fo} {r : Ev} {S : Sto} {bx} {own} {g} {it} {cond} {e} : ev P F (.lc bx own g it cond e : C) r S = ((evI P F it r S).bind fun i S1 =>
      if i.xs.length ≤ line then (loopC g (wipeE r own) i.ok (fun r' S2 => evAll P F cond r' S2) (fun r' S2 => ev P F e r' S2) i.xs S1).nox.bind fun ys S2 => newL bx ys S2 else .bad) := by rw [ev] <;> rfl
@[simp] theorem q_ev14 {P : Pg} {F : Fo} {r : Ev} {S : Sto} {bx} {a} : ev P F (.lst bx a : C) r S = ((ev P F a r S).bind fun x S1 => (R.of (itemsOf S1 x) S1).bind fun xs S1 => newL bx xs S1) := by rw [ev] <;> rfl
@[simp] theorem q_ev15 {P : Pg} {F : Fo} {r : Ev} {S : Sto} {bx} {a} : ev P F (.srt bx a : C) r S = ((ev P F a r S).bind fun x S1 => (R.of ((itemsOf S1 x).bind sortW) S1).bind fun xs S1 => newL bx xs S1) := by rw [ev] <;> rfl
@[simp] theorem q_ev16 {P : Pg} {F : Fo} {r : Ev} {S : Sto} {a} {i} : ev P F (.idx a i : C) r S = ((ev P F a r S).bind fun x S1 => (ev P F i r S1).bind fun y S2 => R.of (idxW S2 x y) S2) := by rw [ev] <;> rfl
@[simp] theorem q_ev17 {P : Pg} {F : Fo} {r : Ev} {S : Sto} {a} {lo} {hi} : ev P F (.slc a lo hi : C) r S = ((ev P F a r S).bind fun x S1 => (evO P F lo r S1).bind fun l S2 => (evO P F hi r S2).bind fun h S3 => R.of (slcW S3 x l h) S3) := by rw [ev] <;> rfl
@[simp] theorem q_ev18 {P : Pg} {F : Fo} {r : Ev} {S : Sto} {bx} {a} : ev P F (.rev bx a : C) r S = ((ev P F a r S).bind fun x S1 => match view S1 x with
    | .tup xs => if bx = true then .bad else .ok (.tup xs.reverse) S1
    | .lst xs => newL bx xs.reverse S1
    | _ => .bad) := by rw [ev] <;> rfl
@[simp] theorem q_ev19 {P : Pg} {F : Fo} {r : Ev} {S : Sto} {p} {a} : ev P F (.p1 p a : C) r S = ((ev P F a r S).bind fun x S1 => R.of (pr1 p S1 x) S1) := by rw [ev] <;> rfl
@[simp] theorem q_ev20 {P : Pg} {F : Fo} {r : Ev} {S : Sto} {p} {a} {b} : ev P F (.p2 p a b : C) r S = ((ev P F a r S).bind fun x S1 => (ev P F b r S1).bind fun y S2 => R.of (pr2 p S2 x y) S2) := by rw [ev] <;> rfl
@[simp] theorem q_ev21 {P : Pg} {F : Fo} {r : Ev} {S : Sto} {a} {b} : ev P F (.jn a b : C) r S = ((ev P F a r S).bind fun x S1 => match x with
    | .str z => (ev P F b r S1).bind fun y S2 => R.of (joinW z S2 y) S2
    | _ => .bad) := by rw [ev] <;> rfl
@[simp] theorem q_ev22 {P : Pg} {F : Fo} {r : Ev} {S : Sto} {a} {ts} : ev P F (.isi a ts : C) r S = ((ev P F a r S).bind fun x S1 => R.of ((isAny S1 x ts).map Wv.bl) S1) := by rw [ev] <;> rfl
@[simp] theorem q_ev23 {P : Pg} {F : Fo} {r : Ev} {S : Sto} {m} {o} {a} : ev P F (.mut m o a : C) r S = ((ev P F o r S).bind fun x S1 => if isBx S1 x = true then (evs P F a r S1).bind fun y S2 => mut1 m S2 x y else .bad) := by rw [ev] <;> rfl
@[simp] theorem q_ev24 {P : Pg} {F : Fo} {r : Ev} {S : Sto} {a} : ev P F (.frz a : C) r S = ((ev P F a r S).bind fun x S1 => frzW S1 x) := by rw [ev] <;> rfl
@[simp] theorem q_ev25 {P : Pg} {F : Fo} {r : Ev} {S : Sto} {o} {f} : ev P F (.att o f : C) r S = ((ev P F o r S).bind fun x S1 => R.of (attW P S1 x f) S1) := by rw [ev] <;> rfl
@[simp] theorem q_ev26 {P : Pg} {F : Fo} {r : Ev} {S : Sto} {f} {es} : ev P F (.fn f es : C) r S = ((evs P F es r S).bind fun xs S1 => F f xs S1) := by rw [ev] <;> rfl
@[simp] theorem q_ev27 {P : Pg} {F : Fo} {r : Ev} {S : Sto} {f} {es} {ks} {perm} : ev P F (.fnk f es ks perm : C) r S = ((evs P F es r S).bind fun xs S1 => (evs P F ks r S1).bind fun ys S2 => match perm.mapM fun j => (xs ++ ys)[j]? with
    | some zs => F f zs S2
    | none => .bad) := by rw [ev] <;> rfl
@[simp] theorem q_ev28 {P : Pg} {F : Fo} {r : Ev} {S : Sto} {m} {o} {es} : ev P F (.mth m o es : C) r S = ((ev P F o r S).bind fun x S1 => match methOf P S1 x m with
    | some f => (evs P F es r S1).bind fun xs S2 => F f (x :: xs) S2
    | none => .bad) := by rw [ev] <;> rfl
@[simp] theorem q_ev29 {P : Pg} {F : Fo} {r : Ev} {S : Sto} {c} {m} {es} : ev P F (.cm c m es : C) r S = ((evs P F es r S).bind fun xs S1 => match P.cmet c m with
    | some f => F f (.cls c :: xs) S1
    | none => .bad) := by rw [ev] <;> rfl
@[simp] theorem q_ev30 {P : Pg} {F : Fo} {r : Ev} {S : Sto} {c} : ev P F (.new c : C) r S = ((ev P F c r S).bind fun x S1 => makeW P F x S1) := by rw [ev] <;> rfl
@[simp] theorem q_ev31 {P : Pg} {F : Fo} {r : Ev} {S : Sto} : ev P F (.dnew : C) r S = (.ok (.ref S.length) (S ++ [.dic []])) := by rw [ev] <;> rfl
@[simp] theorem q_ev32 {P : Pg} {F : Fo} {r : Ev} {S : Sto} {bx} {a} : ev P F (.itm bx a : C) r S = ((ev P F a r S).bind fun x S1 => match x with
    | .ref l => match S1[l]? with
      | some (.dic kvs) => newL bx (kvs.map fun p => .tup [keyW p.1, p.2]) S1
      | _ => .bad
    | _ => .bad) := by rw [ev] <;> rfl
@[simp] theorem q_evs33 {P : Pg} {F : Fo} {r : Ev} {S : Sto} : evs P F ([] : List C) r S = (.ok [] S) := by rw [evs] <;> rfl
@[simp] theorem q_evs34 {P : Pg} {F : Fo} {r : Ev} {S : Sto} {e} {es} : evs P F (e :: es : List C) r S = ((ev P F e r S).bind fun x S1 => (evs P F es r S1).bind fun xs S2 => .ok (x :: xs) S2) := by rw [evs] <;> rfl
@[simp] theorem q_evAll35 {P : Pg} {F : Fo} {r : Ev} {S : Sto} : evAll P F ([] : List C) r S = (.ok true S) := by rw [evAll] <;> rfl
@[simp] theorem q_evAll36 {P : Pg} {F : Fo} {r : Ev} {S : Sto} {e} {es} : evAll P F (e :: es : List C) r S = (((ev P F e r S).bind asBool).bind fun b S1 => if b = true then evAll P F es r S1 else .ok false S1) := by rw [evAll] <;> rfl
@[simp] theorem q_evAny37 {P : Pg} {F : Fo} {r : Ev} {S : Sto} : evAny P F ([] : List C) r S = (.ok false S) := by rw [evAny] <;> rfl
@[simp] theorem q_evAny38 {P : Pg} {F : Fo} {r : Ev} {S : Sto} {e} {es} : evAny P F (e :: es : List C) r S = (((ev P F e r S).bind asBool).bind fun b S1 => if b = true then .ok true S1 else evAny P F es r S1) := by rw [evAny] <;> rfl
@[simp] theorem q_evO39 {P : Pg} {F : Fo} {r : Ev} {S : Sto} : evO P F (none : Option C) r S = (.ok none S) := by rw [evO] <;> rfl
@[simp] theorem q_evO40 {P : Pg} {F : Fo} {r : Ev} {S : Sto} {c} : evO P F (some c : Option C) r S = ((ev P F c r S).bind fun w S1 => R.of (partOf w) S1) := by rw [evO] <;> rfl
@[simp] theorem q_evI41 {P : Pg} {F : Fo} {r : Ev} {S : Sto} {es} : evI P F (.rng es : Ic) r S = ((evs P F es r S).bind fun xs S1 => match xs with
    | [.int n] => if -(2 ^ 62) ≤ n ∧ n < 2 ^ 62 then .ok ⟨(List.range n.toNat).map fun (i : Nat) => .int (i : Int), none⟩ S1 else .bad
    | _ => .bad) := by rw [evI] <;> rfl
@[simp] theorem q_evI42 {P : Pg} {F : Fo} {r : Ev} {S : Sto} {a} : evI P F (.enm a : Ic) r S = ((ev P F a r S).bind fun x S1 => R.of ((walkL S1 x).map fun i => ⟨enumW 0 i.xs, i.gd⟩) S1) := by rw [evI] <;> rfl
@[simp] theorem q_evI43 {P : Pg} {F : Fo} {r : Ev} {S : Sto} {e} : evI P F (.any e : Ic) r S = ((ev P F e r S).bind fun x S1 => R.of (walkOf S1 x) S1) := by rw [evI] <;> rfl
@[simp] theorem q_exS44 {P : Pg} {F : Fo} {r : Ev} {S : Sto} {g} {e} : exS P F (.asg g e : Pe.S) r S = ((ev P F e r S).bind fun x S1 => match bindG g x r with
    | some r' => .ok (.nx r') S1
    | none => .bad) := by rw [exS] <;> rfl
@[simp] theorem q_exS45 {P : Pg} {F : Fo} {r : Ev} {S : Sto} {i} {j} {a} {b} : exS P F (.par i j a b : Pe.S) r S = ((ev P F a r S).bind fun x S1 => (ev P F b r S1).bind fun y S2 => if i < r.length ∧ j < r.length then .ok (.nx ((r.set i x).set j y)) S2 else .bad) := by rw [exS] <;> rfl
@[simp] theorem q_exS46 {P : Pg} {F : Fo} {r : Ev} {S : Sto} {o} {i} {e} : exS P F (.seti o i e : Pe.S) r S = ((ev P F e r S).bind fun v S1 => (ev P F o r S1).bind fun x S2 => (ev P F i r S2).bind fun y S3 => match setI S3 x y v with
    | some S4 => .ok (.nx r) S4
    | none => .bad) := by rw [exS] <;> rfl
@[simp] theorem q_exS47 {P : Pg} {F : Fo} {r : Ev} {S : Sto} {o} {f} {e} : exS P F (.seta o f e : Pe.S) r S = ((ev P F e r S).bind fun v S1 => (ev P F o r S1).bind fun x S2 => match setA P S2 x f v with
    | some S3 => .ok (.nx r) S3
    | none => .bad) := by rw [exS] <;> rfl
@[simp] theorem q_exS48 {P : Pg} {F : Fo} {r : Ev} {S : Sto} {e} : exS P F (.ex e : Pe.S) r S = ((ev P F e r S).bind fun _ S1 => .ok (.nx r) S1) := by rw [exS] <;> rfl
@[simp] theorem q_exS49 {P : Pg} {F : Fo} {r : Ev} {S : Sto} {e} : exS P F (.ret e : Pe.S) r S = ((ev P F e r S).bind fun v S1 => .ok (.rt v) S1) := by rw [exS] <;> rfl
@[simp] theorem q_exS50 {P : Pg} {F : Fo} {r : Ev} {S : Sto} {t} {a} {b} : exS P F (.ite t a b : Pe.S) r S = (((ev P F t r S).bind asBool).bind fun x S1 => if x = true then exB P F a r S1 else exB P F b r S1) := by rw [exS] <;> rfl
@[simp] theorem q_exS51 {P : Pg} {F : Fo} {r : Ev} {S : Sto} {g} {it} {b} : exS P F (.for_ g it b : Pe.S) r S = ((evI P F it r S).bind fun i S1 => loopS g i.ok (fun r' S2 => exB P F b r' S2) i.xs r S1) := by rw [exS] <;> rfl
@[simp] theorem q_exS52 {P : Pg} {F : Fo} {r : Ev} {S : Sto} : exS P F (.nx : Pe.S) r S = (.ok (.nx r) S) := by rw [exS] <;> rfl
@[simp] theorem q_exS53 {P : Pg} {F : Fo} {r : Ev} {S : Sto} : exS P F (.brk : Pe.S) r S = (.ok (.bk r) S) := by rw [exS] <;> rfl
@[simp] theorem q_exS54 {P : Pg} {F : Fo} {r : Ev} {S : Sto} : exS P F (.cont : Pe.S) r S = (.ok (.ct r) S) := by rw [exS] <;> rfl
@[simp] theorem q_exS55 {P : Pg} {F : Fo} {r : Ev} {S : Sto} : exS P F (.never : Pe.S) r S = (.bad) := by rw [exS] <;> rfl
@[simp] theorem q_exB56 {P : Pg} {F : Fo} {r : Ev} {S : Sto} : exB P F ([] : List Pe.S) r S = (.ok (.nx r) S) := by rw [exB] <;> rfl
@[simp] theorem q_exB57 {P : Pg} {F : Fo} {r : Ev} {S : Sto} {s} {ss} : exB P F (s :: ss : List Pe.S) r S = ((exS P F s r S).bind fun f S1 => match f with
    | .nx r1 => exB P F ss r1 S1
    | f => .ok f S1) := by rw [exB] <;> rfl
@[simp] theorem q_ev58 {P : Pg} {F : Fo} {r : Ev} {S : Sto} {a} {es} : ev P F (.stp a es : C) r S = ((ev P F a r S).bind fun x S1 => match x with
    | .tup xs => (evs P F es r S1).bind fun ys S2 => if (xs ++ ys).length ≤ line then .ok (.tup (xs ++ ys)) S2 else .bad
    | _ => .bad) := by rw [ev] <;> rfl
@[simp] theorem q_exS59 {P : Pg} {F : Fo} {r : Ev} {S : Sto} {i} {p} {a} {b} : exS P F (.mat i p a b : Pe.S) r S = ((getV r i S).bind fun w S1 => match matP S1 p w r with
    | none => .bad
    | some none => exB P F b r S1
    | some (some r') => exB P F a r' S1) := by rw [exS] <;> rfl
@[simp] theorem q_bool {b : Bool} {S : Sto} : asBool (.bl b) S = .ok b S := rfl
@[simp] theorem q_nm {i : Nat} {w : Wv} {r : Ev} : bindG (.nm i) w r = if i < r.length then some (r.set i w) else none := by rw [bindG]
@[simp] theorem q_tp {ts : List Tg} {xs : List Wv} {r : Ev} : bindG (.tp ts) (.tup xs) r = bindGs ts xs r := by rw [bindG]
@[simp] theorem q_gs0 {r : Ev} : bindGs [] [] r = some r := by rw [bindGs]
@[simp] theorem q_gs1 {t : Tg} {ts : List Tg} {x : Wv} {xs : List Wv} {r : Ev} : bindGs (t :: ts) (x :: xs) r = (bindG t x r).bind fun r' => bindGs ts xs r' := by rw [bindGs]
@[simp] theorem q_rt {n : Nat} {v : Wv} {S : Sto} : backF n (.rt v) S = .ok v (sweep n v S) := rfl
@[simp] theorem q_nx {n : Nat} {r : Ev} {S : Sto} : backF n (.nx r) S = .ok .non (sweep n .non S) := rfl
@[simp] theorem q_w0 {r : Ev} : wipeE r [] = r := rfl
@[simp] theorem q_w1 {r : Ev} {i : Nat} {is : List Nat} : wipeE r (i :: is) = (wipeE r is).set i .unb := rfl
@[simp] theorem q_po {i : Int} : partOf (.int i) = some (some i) := rfl
@[simp] theorem q_v1 {S : Sto} {x : List Wv} : view S (.tup x) = .tup x := rfl
@[simp] theorem q_v2 {S : Sto} {x : List Wv} : view S (.lst x) = .lst x := rfl
@[simp] theorem q_v3 {S : Sto} {x : List Wv} : view S (.scr x) = .scr x := rfl
@[simp] theorem q_v4 {S : Sto} {x : Str} : view S (.str x) = .str x := rfl
@[simp] theorem q_v5 {S : Sto} {x : Int} : view S (.int x) = .int x := rfl
@[simp] theorem q_v6 {S : Sto} {x : Bool} : view S (.bl x) = .bl x := rfl
@[simp] theorem q_v7 {S : Sto} : view S .non = .non := rfl
@[simp] theorem q_v8 {S : Sto} {l : Nat} : view S (.ref l) = match S[l]? with
    | some (.lst xs) => .lst xs
    | _ => .ref l := rfl
theorem loopS_inv {g : Tg} {G : Sto → Bool} {b : Ev → Sto → R Fl} (I : Nat → Ev → Sto → Prop) (xs : List Wv) (hG : ∀ i r S, i ≤ xs.length → I i r S → G S = true)
    (step : ∀ i x r S, xs[i]? = some x → I i r S → ∃ r1 r2 S2, bindG g x r = some r1 ∧ b r1 S = .ok (.nx r2) S2 ∧ I (i + 1) r2 S2) {r : Ev} {S : Sto} (h0 : I 0 r S) : ∃ r' S', loopS g G b xs r S = .ok (.nx r') S' ∧ I xs.length r' S' := by
  have key : ∀ (k i : Nat) (r : Ev) (S : Sto), i + k = xs.length → I i r S → ∃ r' S', loopS g G b (xs.drop i) r S = .ok (.nx r') S' ∧ I xs.length r' S' := by
    intro k
    induction k with
    | zero =>
      intro i r S hi h
      have e : i = xs.length := by omega
      subst e
      rw [List.drop_length]
      unfold loopS
      rw [if_pos (hG _ r S (Nat.le_refl _) h)]
      exact ⟨r, S, rfl, h⟩
    | succ k ih =>
      intro i r S hi h
      have hl : i < xs.length := by omega
      rw [List.drop_eq_getElem_cons hl]
      unfold loopS
      rw [if_pos (hG _ r S (by omega) h)]
      obtain ⟨r1, r2, S2, e1, e2, h2⟩ := step i xs[i] r S (List.getElem?_eq_getElem hl) h
      obtain ⟨r', S', e3, h3⟩ := ih (i + 1) r2 S2 (by omega) h2
      rw [e1]
      dsimp only
      rw [e2, R.bind_ok]
      exact ⟨r', S', e3, h3⟩
  have := key xs.length 0 r S (by omega) h0
  rwa [List.drop_zero] at this
theorem loopC_inv {g : Tg} {r : Ev} {G : Sto → Bool} {c : Ev → Sto → R Bool} {e : Ev → Sto → R Wv} (I : Nat → List Wv → Sto → Prop) (xs : List Wv) (hG : ∀ i ys S, i ≤ xs.length → I i ys S → G S = true)
    (step : ∀ i x ys S, xs[i]? = some x → I i ys S → ∃ r1 S1, bindG g x r = some r1 ∧ ((c r1 S = .ok false S1 ∧ I (i + 1) ys S1) ∨ (c r1 S = .ok true S1 ∧ ∃ y S2, e r1 S1 = .ok y S2 ∧ I (i + 1) (ys ++ [y]) S2))) {S : Sto} (h0 : I 0 [] S) : ∃ ys S', loopC g r G c e xs S = .ok ys S' ∧ I xs.length ys S' := by
  have key : ∀ (k i : Nat) (ys : List Wv) (S : Sto), i + k = xs.length → I i ys S → ∃ zs S', loopC g r G c e (xs.drop i) S = .ok zs S' ∧ I xs.length (ys ++ zs) S' := by
    intro k
    induction k with
    | zero =>
      intro i ys S hi h
      have e : i = xs.length := by omega
      subst e
      rw [List.drop_length]
      unfold loopC
      rw [if_pos (hG _ ys S (Nat.le_refl _) h)]
      exact ⟨[], S, rfl, by rw [List.append_nil]; exact h⟩
    | succ k ih =>
      intro i ys S hi h
      have hl : i < xs.length := by omega
      rw [List.drop_eq_getElem_cons hl]
      unfold loopC
      rw [if_pos (hG _ ys S (by omega) h)]
      obtain ⟨r1, S1, e1, h2⟩ := step i xs[i] ys S (List.getElem?_eq_getElem hl) h
      rw [e1]
      dsimp only
      rcases h2 with ⟨e2, h2⟩ | ⟨e2, y, S2, e3, h2⟩
      · obtain ⟨zs, S', e4, h3⟩ := ih (i + 1) ys S1 (by omega) h2
        rw [e2, R.bind_ok, if_neg Bool.false_ne_true]
        exact ⟨zs, S', e4, h3⟩
      · obtain ⟨zs, S', e4, h3⟩ := ih (i + 1) (ys ++ [y]) S2 (by omega) h2
        rw [e2, R.bind_ok, if_pos rfl, e3, R.bind_ok, e4, R.bind_ok]
        refine ⟨y :: zs, S', rfl, ?_⟩
        rw [List.append_assoc] at h3
        exact h3
  have := key xs.length 0 [] S (by omega) h0
  rw [List.drop_zero] at this
  simpa using this
theorem loopC_map {g : Tg} {r : Ev} {G : Sto → Bool} {c : Ev → Sto → R Bool} {e : Ev → Sto → R Wv} {S : Sto} (f : Wv → Wv) (hG : G S = true) : ∀ (xs : List Wv), (∀ x ∈ xs, ∃ r1, bindG g x r = some r1 ∧ c r1 S = .ok true S ∧ e r1 S = .ok (f x) S) → loopC g r G c e xs S = .ok (xs.map f) S
  | [], _ => by
    unfold loopC
    rw [if_pos hG]
    rfl
  | x :: xs, h => by
    obtain ⟨r1, e1, e2, e3⟩ := h x List.mem_cons_self
    unfold loopC
    rw [if_pos hG, e1]
    dsimp only
    rw [e2, R.bind_ok, if_pos rfl, e3, R.bind_ok, loopC_map f hG xs fun y hy => h y (List.mem_cons_of_mem _ hy), R.bind_ok]
    rfl
@[simp] theorem nox_ok {a : Type} (v : a) (S : Sto) : (R.ok v S).nox = .ok v S := rfl
@[simp] theorem ok_none (S : Sto) : (⟨xs, none⟩ : Its).ok S = true := rfl

theorem exB_app {P : Pg} {F : Fo} : ∀ (a b : List Pe.S) (r : Ev) (S : Sto), exB P F (a ++ b) r S = (exB P F a r S).bind fun f S1 => match f with
    | .nx r1 => exB P F b r1 S1
    | f => .ok f S1
  | [], b, r, S => rfl
  | s :: a, b, r, S => by
    rw [List.cons_append, exB, exB]
    cases exS P F s r S with
    | ok f S1 =>
      cases f with
      | nx r1 =>
        show exB P F (a ++ b) r1 S1 = _
        rw [exB_app a b r1 S1]
        rfl
      | _ => rfl
    | exc c v S1 => rfl
    | bad => rfl
/-- the first statements run through -/
theorem exB_pre {P : Pg} {F : Fo} {a b : List Pe.S} {r r1 : Ev} {S S1 : Sto} (h : exB P F a r S = .ok (.nx r1) S1) : exB P F (a ++ b) r S = exB P F b r1 S1 := by
  rw [exB_app, h]
  rfl
theorem exB_go {P : Pg} {F : Fo} {s : Pe.S} {ss : List Pe.S} {r r1 : Ev} {S S1 : Sto} (h : exS P F s r S = .ok (.nx r1) S1) : exB P F (s :: ss) r S = exB P F ss r1 S1 := by
  rw [exB, h]
  rfl
theorem exB_rt {P : Pg} {F : Fo} {s : Pe.S} {ss : List Pe.S} {r : Ev} {v : Wv} {S S1 : Sto} (h : exS P F s r S = .ok (.rt v) S1) : exB P F (s :: ss) r S = .ok (.rt v) S1 := by
  rw [exB, h]
  rfl
theorem for_inv {P : Pg} {F : Fo} {g : Tg} {it : Ic} {b : List Pe.S} {r : Ev} {S S1 : Sto} {i : Its} (hi : evI P F it r S = .ok i S1) (I : Nat → Ev → Sto → Prop) (h0 : I 0 r S1) (hG : ∀ k r S, k ≤ i.xs.length → I k r S → i.ok S = true)
    (step : ∀ k x r S, i.xs[k]? = some x → I k r S → ∃ r1 r2 S2, bindG g x r = some r1 ∧ exB P F b r1 S = .ok (.nx r2) S2 ∧ I (k + 1) r2 S2) : ∃ r' S', exS P F (.for_ g it b) r S = .ok (.nx r') S' ∧ I i.xs.length r' S' := by
  obtain ⟨r', S', e, h⟩ := loopS_inv (g := g) (G := i.ok) (b := fun r' S2 => exB P F b r' S2) I i.xs hG step h0
  refine ⟨r', S', ?_, h⟩
  rw [exS, hi, R.bind_ok]
  exact e
theorem lc_inv {P : Pg} {F : Fo} {bx : Bool} {own : List Nat} {g : Tg} {it : Ic} {cond : List C} {e : C} {r : Ev} {S S1 : Sto} {i : Its} (hi : evI P F it r S = .ok i S1) (hl : i.xs.length ≤ line) (I : Nat → List Wv → Sto → Prop) (h0 : I 0 [] S1) (hG : ∀ k ys S, k ≤ i.xs.length → I k ys S → i.ok S = true)
    (step : ∀ k x ys S, i.xs[k]? = some x → I k ys S → ∃ r1 S2, bindG g x (wipeE r own) = some r1 ∧ ((evAll P F cond r1 S = .ok false S2 ∧ I (k + 1) ys S2) ∨ (evAll P F cond r1 S = .ok true S2 ∧ ∃ y S3, ev P F e r1 S2 = .ok y S3 ∧ I (k + 1) (ys ++ [y]) S3))) :
    ∃ ys S', ev P F (.lc bx own g it cond e) r S = newL bx ys S' ∧ I i.xs.length ys S' := by
  obtain ⟨ys, S', e', h⟩ := loopC_inv (g := g) (r := wipeE r own) (G := i.ok) (c := fun r' S2 => evAll P F cond r' S2) (e := fun r' S2 => ev P F e r' S2) I i.xs hG step h0
  refine ⟨ys, S', ?_, h⟩
  rw [ev, hi, R.bind_ok, if_pos hl, e']
  rfl
theorem lc_map {P : Pg} {F : Fo} {bx : Bool} {own : List Nat} {g : Tg} {it : Ic} {cond : List C} {e : C} {r : Ev} {S S1 : Sto} {i : Its} (hi : evI P F it r S = .ok i S1) (hl : i.xs.length ≤ line) (f : Wv → Wv) (hG : i.ok S1 = true)
    (step : ∀ x ∈ i.xs, ∃ r1, bindG g x (wipeE r own) = some r1 ∧ evAll P F cond r1 S1 = .ok true S1 ∧ ev P F e r1 S1 = .ok (f x) S1) : ev P F (.lc bx own g it cond e) r S = newL bx (i.xs.map f) S1 := by
  rw [ev, hi, R.bind_ok, if_pos hl, loopC_map f hG i.xs step]
  rfl
theorem newL_f {xs : List Wv} {S : Sto} (h : xs.length ≤ line) : newL false xs S = .ok (.lst xs) S := by
  unfold newL
  rw [if_pos h, if_neg Bool.false_ne_true]
theorem newL_t {xs : List Wv} {S : Sto} (h : xs.length ≤ line) : newL true xs S = .ok (.ref S.length) (S ++ [.lst xs]) := by
  unfold newL
  rw [if_pos h, if_pos rfl]
theorem rng_at {n : Nat} {i : Nat} {x : Wv} (h : ((List.range n).map fun (i : Nat) => Wv.int (i : Int))[i]? = some x) : i < n ∧ x = .int i := by
  rw [List.getElem?_map] at h
  obtain ⟨y, h1, rfl⟩ := Option.map_eq_some_iff.mp h
  obtain ⟨hl, e⟩ := List.getElem?_eq_some_iff.mp h1
  rw [List.length_range] at hl
  rw [List.getElem_range] at e
  subst e
  exact ⟨hl, rfl⟩
abbrev rngI (n : Nat) : Its := ⟨(List.range n).map fun (i : Nat) => .int (i : Int), none⟩
theorem pow62 : (2 : Int) ^ 62 = 4611686018427387904 := by decide +kernel
theorem evI_rng {P : Pg} {F : Fo} {e : C} {r : Ev} {S S1 : Sto} {k : Int} {n : Nat} (h : ev P F e r S = .ok (.int k) S1) (hk : k = (n : Int)) (hn : n ≤ 1000) : evI P F (.rng [e]) r S = .ok (rngI n) S1 := by
  subst hk
  have e1 : evs P F [e] r S = .ok [.int n] S1 := by rw [evs, h, R.bind_ok, evs, R.bind_ok]
  rw [evI, e1, R.bind_ok]
  have c : -(2 ^ 62 : Int) ≤ (n : Int) ∧ (n : Int) < (2 ^ 62 : Int) := by
    rw [pow62]
    omega
  show (if -(2 ^ 62 : Int) ≤ (n : Int) ∧ (n : Int) < (2 ^ 62 : Int) then R.ok _ S1 else R.bad) = _
  rw [if_pos c, Int.toNat_natCast]
theorem rng_len {n : Nat} : (rngI n).xs.length = n := by simp
/-! ### the source of a law's numbers -/
abbrev src (a b : Int) : Ob := .lst [.int a, .int b]
/-- at l stands a source from which at most B numbers were drawn -/
def Src (l B : Nat) (S : Sto) : Prop := ∃ a b : Int, S[l]? = some (src a b) ∧ 0 ≤ a ∧ ((b = 0 ∧ a < 10 ^ 180) ∨ (1 ≤ b ∧ b ≤ B ∧ a < 2147483647))
/-- the source at l has changed, nothing else -/
def Drw (l : Nat) (S S' : Sto) : Prop := S' = S ∨ ∃ a b : Int, S' = S.set l (src a b)
theorem Drw.rfl' {l : Nat} {S : Sto} : Drw l S S := .inl rfl
theorem Drw.trans {l : Nat} {S S1 S2 : Sto} (h : Drw l S S1) (k : Drw l S1 S2) : Drw l S S2 := by
  rcases k with rfl | ⟨c, d, rfl⟩
  · exact h
  · rcases h with rfl | ⟨a, b, rfl⟩
    · exact .inr ⟨c, d, rfl⟩
    · exact .inr ⟨c, d, by rw [List.set_set]⟩
theorem Drw.len {l : Nat} {S S' : Sto} (h : Drw l S S') : S'.length = S.length := by
  rcases h with rfl | ⟨a, b, rfl⟩
  · rfl
  · rw [List.length_set]
theorem Drw.get {l : Nat} {S S' : Sto} (h : Drw l S S') {j : Nat} (n : j ≠ l) : S'[j]? = S[j]? := by
  rcases h with rfl | ⟨a, b, rfl⟩
  · rfl
  · rw [List.getElem?_set_ne (Ne.symm n)]
theorem cl_iff {S : Sto} : Cl S ↔ ∀ (j : Nat) (o : Ob), S[j]? = some o → o.under S.length = true := by
  unfold Cl
  rw [List.all_eq_true]
  constructor
  · intro h j o e
    exact h o (List.mem_of_getElem? e)
  · intro h o m
    obtain ⟨j, e⟩ := List.mem_iff_getElem?.mp m
    exact h j o e
theorem Cl.set {S : Sto} (h : Cl S) {l : Nat} {o : Ob} (u : o.under S.length = true) : Cl (S.set l o) := by
  rw [cl_iff] at h ⊢
  intro j p e
  rw [List.length_set]
  by_cases z : l = j
  · subst z
    have hl : l < S.length := by
      have := (List.getElem?_eq_some_iff.mp e).1
      rwa [List.length_set] at this
    rw [List.getElem?_set_self hl] at e
    cases e
    exact u
  · rw [List.getElem?_set_ne z] at e
    exact h j p e
theorem Drw.cl {l : Nat} {S S' : Sto} (h : Drw l S S') (c : Cl S) : Cl S' := by
  rcases h with rfl | ⟨a, b, rfl⟩
  · exact c
  · exact c.set (by simp [src, Ob.under, unders, under])
theorem Src.mono {l B C : Nat} {S : Sto} (h : Src l B S) (q : B ≤ C) : Src l C S := by
  obtain ⟨a, b, h1, h2, h3⟩ := h
  refine ⟨a, b, h1, h2, ?_⟩
  rcases h3 with h3 | ⟨h3, h4, h5⟩
  · exact .inl h3
  · exact .inr ⟨h3, by omega, h5⟩
theorem Src.lt {l B : Nat} {S : Sto} (h : Src l B S) : l < S.length := by
  obtain ⟨a, b, h1, _⟩ := h
  exact (List.getElem?_eq_some_iff.mp h1).1
theorem log2_lt {i : Int} {k : Nat} (hk : 0 < k) (h : i.natAbs < 2 ^ k) : i.natAbs.log2 < k := by
  by_cases z : i.natAbs = 0
  · rw [z]
    simpa using hk
  · exact (Nat.log2_lt z).mpr h
theorem mul_ok {i j : Int} {S : Sto} (h1 : i.natAbs.log2 < 1000) (h2 : j.natAbs.log2 < 1000) : binW .mul S (.int i) (.int j) = some (.int (i * j)) := by
  show (if i.natAbs.log2 + j.natAbs.log2 < 1000000 then some (Wv.int (i * j)) else none) = _
  rw [if_pos (by omega)]
theorem log2_64 {i : Int} (h : i.natAbs < 2 ^ 64) : i.natAbs.log2 < 1000 := Nat.lt_of_lt_of_le (log2_lt (by decide) h) (by decide)
theorem mod_ok {i j : Int} {S : Sto} (h : 0 < j) : binW .mod S (.int i) (.int j) = some (.int (i % j)) := by
  show (if 0 < j then some (Wv.int (i % j)) else none) = _
  rw [if_pos h]
theorem fdiv_ok {i j : Int} {S : Sto} (h : 0 < j) (h1 : j.natAbs.log2 < 1000) : binW .fdiv S (.int i) (.int j) = some (.int (i / j)) := by
  show (if 0 < j ∧ j.natAbs.log2 < 9000 then some (Wv.int (i / j)) else none) = _
  rw [if_pos ⟨h, by omega⟩]
theorem pow_ok {i j : Int} {S : Sto} (h : 0 ≤ j) (h2 : j ≤ 1000) (h3 : i.natAbs < 2 ^ 64) : binW .pow S (.int i) (.int j) = some (.int (i ^ j.toNat)) := by
  show (if 0 ≤ j ∧ j ≤ 1000000 ∧ i.natAbs < 2 ^ 64 then some (Wv.int (i ^ j.toNat)) else none) = _
  rw [if_pos ⟨h, by omega, h3⟩]
@[simp] theorem add_ok {i j : Int} {S : Sto} : binW .add S (.int i) (.int j) = some (.int (i + j)) := rfl
@[simp] theorem subi_ok {i j : Int} {S : Sto} : binW .sub S (.int i) (.int j) = some (.int (i - j)) := rfl
theorem idx_lst {xs : List Wv} {k : Int} {S : Sto} {j : Nat} {x : Wv} (hj : k = (j : Int)) (hx : xs[j]? = some x) : idxW S (.lst xs) (.int k) = some x := by
  have hl := (List.getElem?_eq_some_iff.mp hx).1
  show atI xs k = some x
  unfold atI ixN
  rw [hj, if_pos (by omega), if_pos (by omega)]
  exact hx
theorem idx_ref {l : Nat} {xs : List Wv} {k : Int} {S : Sto} {j : Nat} {x : Wv} (hS : S[l]? = some (.lst xs)) (hj : k = (j : Int)) (hx : xs[j]? = some x) : idxW S (.ref l) (.int k) = some x := by
  have hv : view S (.ref l) = .lst xs := by simp [hS]
  have hl := (List.getElem?_eq_some_iff.mp hx).1
  unfold idxW
  rw [hv]
  show atI xs k = some x
  unfold atI ixN
  rw [hj, if_pos (by omega), if_pos (by omega)]
  exact hx
theorem idx_tup {xs : List Wv} {k : Int} {S : Sto} {j : Nat} {x : Wv} (hj : k = (j : Int)) (hx : xs[j]? = some x) : idxW S (.tup xs) (.int k) = some x := by
  have hl := (List.getElem?_eq_some_iff.mp hx).1
  show atI xs k = some x
  unfold atI ixN
  rw [hj, if_pos (by omega), if_pos (by omega)]
  exact hx
@[simp] theorem cmp_int_eq {i j : Int} {S : Sto} : cmpW .eq S (.int i) (.int j) = some (decide (i = j)) := rfl
@[simp] theorem cmp_int_ne {i j : Int} {S : Sto} : cmpW .ne S (.int i) (.int j) = some (!decide (i = j)) := rfl
@[simp] theorem cmp_int_lt {i j : Int} {S : Sto} : cmpW .lt S (.int i) (.int j) = some (decide (i < j)) := rfl
@[simp] theorem cmp_int_le {i j : Int} {S : Sto} : cmpW .le S (.int i) (.int j) = some (decide (i ≤ j)) := rfl
@[simp] theorem cmp_int_gt {i j : Int} {S : Sto} : cmpW .gt S (.int i) (.int j) = some (decide (j < i)) := rfl
@[simp] theorem cmp_int_ge {i j : Int} {S : Sto} : cmpW .ge S (.int i) (.int j) = some (decide (j ≤ i)) := rfl
theorem pow_lt_self {a b n : Nat} (h : a ≤ b) : a ^ n ≤ b ^ n := Nat.pow_le_pow_left h n
def fd_law_source_v0 : Fd := ⟨2, 5, false, [.asg (.nm 2) (.k (.int 0)), .ite (.cmp .lt (.v 1) (.p1 .len (.v 0))) [.asg (.nm 2) (.bin .mod (.p1 .abs (.idx (.v 0) (.v 1))) (.bin .mul (.bin .mul (.bin .pow (.k (.int 10)) (.k (.int 60))) (.bin .pow (.k (.int 10)) (.k (.int 60)))) (.bin .pow (.k (.int 10)) (.k (.int 60)))))] [], .ite (.cmp .ge (.v 2) (.bin .pow (.k (.int 10)) (.k (.int 18)))) [.ret (.dsp true [.v 2, .k (.int 0)])] [], .asg (.nm 3) (.bin .mod (.bin .add (.bin .add (.v 2) (.bin .mul (.k (.int 7919)) (.v 1))) (.k (.int 29))) (.k (.int 2147483647))), .for_ (.nm 4) (.rng [.p2 .min (.p1 .len (.v 0)) (.k (.int 9))]) [.asg (.nm 3) (.bin .mod (.bin .add (.bin .add (.bin .pow (.v 3) (.k (.int 5))) (.bin .mod (.idx (.v 0) (.v 4)) (.k (.int 2147483629)))) (.bin .mul (.k (.int 31)) (.v 4))) (.k (.int 2147483647)))], .ret (.dsp true [.v 3, .k (.int 1)])]⟩
def fd_law_setup : Fd := ⟨1, 3, false, [.asg (.nm 1) (.fn 26 [.v 0, .bin .add (.k (.int 1)) (.fn 25 [.v 0, .k (.int 7)])]), .asg (.nm 2) (.fn 27 [.v 0, .v 1]), .ret (.tup [.v 1, .fn 28 [.v 2], .cm 4 2 [.v 2]])]⟩
def fd_law_random_names : Fd := ⟨2, 7, false, [.asg (.nm 2) (.k (.str "abcdefghijklmnopqrstuvwxyz")), .asg (.nm 3) (.jn (.k (.str "")) (.lc false [6] (.nm 6) (.rng [.idx (.dsp false [.k (.int 0), .k (.int 1), .k (.int 2), .k (.int 7)]) (.fn 25 [.v 0, .k (.int 4)])]) [] (.idx (.v 2) (.fn 25 [.v 0, .k (.int 26)])))), .asg (.nm 4) (.fn 25 [.v 0, .bin .add (.p1 .len (.v 3)) (.k (.int 1))]), .asg (.nm 5) (.fn 25 [.v 0, .k (.int 26)]), .ret (.lc false [6] (.nm 6) (.rng [.v 1]) [] (.bin .add (.bin .add (.slc (.v 3) none (some (.v 4))) (.idx (.v 2) (.bin .mod (.bin .add (.v 5) (.bin .mul (.k (.int 5)) (.v 6))) (.k (.int 26))))) (.slc (.v 3) (some (.v 4)) none)))]⟩
def fd_law_draw_v0 : Fd := ⟨2, 3, false, [.ite (.cmp .eq (.idx (.v 0) (.k (.int 1))) (.k (.int 0))) [.asg (.nm 2) (.bin .mod (.idx (.v 0) (.k (.int 0))) (.v 1)), .seti (.v 0) (.k (.int 0)) (.bin .fdiv (.idx (.v 0) (.k (.int 0))) (.v 1)), .ret (.v 2)] [], .seti (.v 0) (.k (.int 0)) (.bin .mod (.bin .add (.bin .add (.bin .pow (.idx (.v 0) (.k (.int 0))) (.k (.int 5))) (.bin .mul (.k (.int 48271)) (.idx (.v 0) (.k (.int 1))))) (.k (.int 11))) (.k (.int 2147483647))), .seti (.v 0) (.k (.int 1)) (.bin .add (.idx (.v 0) (.k (.int 1))) (.k (.int 1))), .ret (.bin .mod (.bin .fdiv (.bin .mod (.bin .mul (.idx (.v 0) (.k (.int 0))) (.k (.int 69621))) (.k (.int 2147483629))) (.k (.int 8))) (.v 1))]⟩
def fd_law_random_lines : Fd := ⟨2, 7, false, [.asg (.nm 2) (.dsp true []), .for_ (.nm 3) (.rng [.p1 .len (.v 1)]) [.par 4 5 (.lst true (.slc (.v 1) none (some (.v 3)))) (.dsp true []), .for_ (.nm 6) (.rng [.idx (.dsp false [.k (.int 0), .k (.int 1), .k (.int 1), .k (.int 2)]) (.fn 25 [.v 0, .k (.int 4)])]) [.ite (.cmp .ne (.v 4) (.dsp false [])) [.ex (.mut .append (.v 5) [.mut .pop (.v 4) [.fn 25 [.v 0, .p1 .len (.v 4)]]])] []], .ex (.mut .append (.v 2) [.tup [.idx (.v 1) (.v 3), .p1 .tuple (.v 5)]])], .ret (.frz (.v 2))]⟩
def fd_law_over : Fd := ⟨1, 7, false, [.asg (.nm 1) .dnew, .for_ (.tp [.nm 2, .nm 3]) (.any (.v 0)) [.asg (.nm 4) (.dsp false [.v 2]), .for_ (.nm 5) (.any (.v 3)) [.asg (.nm 4) (.bin .add (.v 4) (.lc false [6] (.nm 6) (.any (.idx (.v 1) (.v 5))) [.cmp .notin (.v 6) (.v 4)] (.v 6)))], .seti (.v 1) (.v 2) (.v 4)], .ret (.v 1)]⟩
def fd_Kinds_of : Fd := ⟨2, 3, false, [.ite (.not (.fn 9 [.v 1])) [.never] [], .asg (.nm 2) (.new (.v 0)), .ex (.mth 3 (.v 2) [.lst false (.v 1)]), .ret (.v 2)]⟩
def fd_are_rows : Fd := ⟨1, 2, false, [.ret (.and [.isi (.v 0) [.tuple, .list], .p1 .all (.lc false [1] (.nm 1) (.any (.v 0)) [] (.and [.isi (.v 1) [.tuple], .cmp .eq (.p1 .len (.v 1)) (.k (.int 2))]))])]⟩
def fd_Kinds_init : Fd := ⟨1, 2, true, [.seta (.v 0) 18 (.dsp true []), .seta (.v 0) 19 .dnew, .ex (.mth 3 (.v 0) [.itm false (.v 1)])]⟩
def fd_Kinds_take_rows : Fd := ⟨2, 9, false, [.ite (.cmp .gt (.p1 .len (.v 1)) (.att (.v 0) 1)) [.never] [], .asg (.nm 2) (.dsp true []), .for_ (.tp [.nm 3, .nm 4]) (.any (.v 1)) [.ite (.or [.not (.fn 6 [.v 3]), .cmp .isin (.v 3) (.v 2)]) [.never] [], .ex (.mut .append (.v 2) [.v 3])], .for_ (.tp [.nm 5, .tp [.nm 3, .nm 4]]) (.enm (.v 1)) [.ite (.not (.fn 8 [.v 4, .slc (.v 2) none (some (.v 5))])) [.never] [], .ex (.mut .append (.att (.v 0) 18) [.tup [.v 3, .srt false (.v 4)]]), .asg (.nm 6) (.dsp true [.v 3]), .for_ (.nm 7) (.any (.v 4)) [.ex (.mut .extend (.v 6) [.lc false [8] (.nm 8) (.any (.idx (.att (.v 0) 19) (.v 7))) [.cmp .notin (.v 8) (.v 6)] (.v 8)])], .seti (.att (.v 0) 19) (.v 3) (.srt false (.v 6))]]⟩
def fd_is_name : Fd := ⟨1, 2, false, [.ite (.or [.not (.isi (.v 0) [.str]), .not (.cmp2 .le .le (.k (.int 1)) (.p1 .len (.v 0)) (.k (.int 8)))]) [.ret (.k (.bl false))] [], .ret (.p1 .all (.lc false [1] (.nm 1) (.any (.v 0)) [] (.cmp .isin (.v 1) (.k (.str "abcdefghijklmnopqrstuvwxyz")))))]⟩
def fd_are_bases : Fd := ⟨2, 4, false, [.ite (.not (.isi (.v 0) [.tuple, .list])) [.ret (.k (.bl false))] [], .asg (.nm 2) (.lc false [3] (.nm 3) (.any (.v 0)) [.and [.isi (.v 3) [.str], .cmp .isin (.v 3) (.v 1)]] (.v 3)), .ret (.and [.cmp .eq (.p1 .len (.v 2)) (.p1 .len (.v 0)), .cmp .eq (.p1 .lenset (.v 2)) (.p1 .len (.v 2))])]⟩
def fd_law_random_tree : Fd := ⟨4, 6, false, [.ite (.or [.cmp .eq (.v 2) (.k (.int 0)), .cmp .lt (.idx (.v 3) (.k (.int 0))) (.k (.int 2)), .cmp .eq (.fn 25 [.v 0, .k (.int 3)]) (.k (.int 0))]) [.seti (.v 3) (.k (.int 0)) (.bin .sub (.idx (.v 3) (.k (.int 0))) (.k (.int 1))), .ret (.tup [.idx (.v 1) (.fn 25 [.v 0, .p1 .len (.v 1)]), .fn 25 [.v 0, .k (.int 9)]])] [], .asg (.nm 4) (.dsp true []), .for_ (.nm 5) (.rng [.bin .add (.k (.int 1)) (.fn 25 [.v 0, .k (.int 4)])]) [.ite (.or [.cmp .gt (.idx (.v 3) (.k (.int 0))) (.k (.int 0)), .cmp .eq (.v 4) (.dsp false [])]) [.ex (.mut .append (.v 4) [.fn 29 [.v 0, .v 1, .bin .sub (.v 2) (.k (.int 1)), .v 3]])] []], .ret (.tup [.idx (.dsp false [.k (.str ""), .k (.str "all"), .k (.str "sub"), .k (.str "m")]) (.fn 25 [.v 0, .k (.int 4)]), .p1 .tuple (.v 4)])]⟩
def fd_law_any_v0 : Fd := ⟨1, 2, false, [.asg (.nm 1) (.dsp false [.k (.non), .k (.bl true), .k (.bl false), .k (.int 0), .k (.int 1), .neg (.k (.int 1)), .k (.int 7), .bin .pow (.k (.int 10)) (.k (.int 40)), .k (.str ""), .k (.str "a"), .k (.str "A"), .k (.str "abcdefghi"), .k (.str "zz"), .k (.str "*"), .tup [], .dsp false [], .tup [.k (.str "a")], .tup [.k (.str "a"), .k (.int 1)]]), .asg (.nm 1) (.bin .add (.v 1) (.dsp false [.dsp false [.k (.str "a"), .k (.int 1)], .tup [.k (.str "a"), .neg (.k (.int 1))], .tup [.k (.str "a"), .k (.bl true)], .tup [.k (.str "a"), .tup []], .tup [.k (.str ""), .tup []], .tup [.k (.str ""), .tup [.tup [.k (.str "a"), .k (.int 1)]]], .tup [.tup [], .k (.int 1)], .dsp false [.tup [.k (.str "a"), .k (.int 1)]]])), .ret (.idx (.v 1) (.fn 25 [.v 0, .k (.int 26)]))]⟩
def fd_law_bent_v0 : Fd := ⟨2, 6, false, [.ite (.and [.isi (.v 1) [.tuple], .cmp .ne (.v 1) (.tup []), .cmp .gt (.fn 25 [.v 0, .k (.int 5)]) (.k (.int 0))]) [.asg (.nm 4) (.fn 25 [.v 0, .p1 .len (.v 1)]), .ret (.bin .add (.bin .add (.slc (.v 1) none (some (.v 4))) (.tup [.fn 32 [.v 0, .idx (.v 1) (.v 4)]])) (.slc (.v 1) (some (.bin .add (.v 4) (.k (.int 1)))) none))] [], .par 2 3 (.fn 31 [.v 0]) (.fn 25 [.v 0, .k (.int 7)]), .ite (.and [.isi (.v 1) [.tuple], .cmp .lt (.v 3) (.k (.int 5))]) [.asg (.nm 4) (.fn 25 [.v 0, .bin .add (.p1 .len (.v 1)) (.k (.int 1))]), .asg (.nm 5) (.dsp false [.lst false (.v 1), .bin .add (.slc (.v 1) none (some (.v 4))) (.slc (.v 1) (some (.bin .add (.v 4) (.k (.int 1)))) none), .bin .add (.bin .add (.slc (.v 1) none (some (.v 4))) (.tup [.v 2])) (.slc (.v 1) (some (.v 4)) none), .rev false (.v 1)]), .ret (.idx (.bin .add (.v 5) (.dsp false [.bin .add (.slc (.v 1) none (some (.bin .add (.v 4) (.k (.int 1))))) (.slc (.v 1) (some (.v 4)) none)])) (.v 3))] [], .ite (.and [.isi (.v 1) [.int], .cmp .lt (.v 3) (.k (.int 5))]) [.ret (.idx (.dsp false [.bin .add (.v 1) (.k (.int 1)), .bin .sub (.v 1) (.k (.int 1)), .cmp .eq (.v 1) (.k (.int 1)), .bin .sub (.k (.int 0)) (.v 1), .p1 .str (.v 1)]) (.v 3))] [], .ite (.and [.isi (.v 1) [.str], .cmp .lt (.v 3) (.k (.int 4))]) [.ret (.idx (.dsp false [.bin .add (.v 1) (.k (.str "x")), .p1 .upper (.v 1), .slc (.v 1) (some (.k (.int 1))) none, .bin .add (.v 1) (.k (.str " "))]) (.v 3))] [], .ret (.v 2)]⟩
def fd_law_is_tree : Fd := ⟨2, 3, false, [.ite (.or [.not (.isi (.v 1) [.tuple]), .cmp .ne (.p1 .len (.v 1)) (.k (.int 2)), .not (.isi (.idx (.v 1) (.k (.int 0))) [.str])]) [.ret (.k (.bl false))] [], .ite (.isi (.idx (.v 1) (.k (.int 1))) [.tuple]) [.ite (.or [.cmp .eq (.idx (.v 1) (.k (.int 1))) (.tup []), .not (.fn 33 [.idx (.v 1) (.k (.int 0))])]) [.ret (.k (.bl false))] [], .ret (.p1 .all (.lc false [2] (.nm 2) (.any (.idx (.v 1) (.k (.int 1)))) [] (.fn 34 [.v 0, .v 2])))] [], .ite (.or [.not (.isi (.idx (.v 1) (.k (.int 1))) [.int]), .isi (.idx (.v 1) (.k (.int 1))) [.bool]]) [.ret (.k (.bl false))] [], .ret (.and [.cmp .isin (.idx (.v 1) (.k (.int 0))) (.v 0), .cmp .ge (.idx (.v 1) (.k (.int 1))) (.k (.int 0))])]⟩
def fd_law_is_message : Fd := ⟨1, 2, false, [.ite (.or [.not (.isi (.v 0) [.str]), .cmp .gt (.p1 .len (.v 0)) (.k (.int 8))]) [.ret (.k (.bl false))] [], .ret (.p1 .all (.lc false [1] (.nm 1) (.any (.v 0)) [] (.cmp .isin (.v 1) (.k (.str "abcdefghijklmnopqrstuvwxyz")))))]⟩
def fd_is_tree : Fd := ⟨2, 3, false, [.ite (.or [.not (.isi (.v 1) [.tuple]), .cmp .ne (.p1 .len (.v 1)) (.k (.int 2))]) [.ret (.k (.bl false))] [], .ite (.isi (.idx (.v 1) (.k (.int 1))) [.tuple]) [.ret (.and [.fn 7 [.idx (.v 1) (.k (.int 0))], .cmp .ne (.idx (.v 1) (.k (.int 1))) (.tup []), .p1 .all (.lc false [2] (.nm 2) (.any (.idx (.v 1) (.k (.int 1)))) [] (.fn 23 [.v 0, .v 2]))])] [], .ret (.and [.mth 9 (.v 0) [.idx (.v 1) (.k (.int 0))], .fn 5 [.idx (.v 1) (.k (.int 1))]])]⟩
def fd_is_message : Fd := ⟨1, 1, false, [.ret (.and [.isi (.v 0) [.str], .or [.cmp .eq (.v 0) (.k (.str "")), .fn 6 [.v 0]]])]⟩
def fd_Kinds_has : Fd := ⟨2, 2, false, [.ret (.and [.isi (.v 1) [.str], .cmp .isin (.v 1) (.att (.v 0) 19)])]⟩
def fd_is_number : Fd := ⟨1, 1, false, [.ret (.and [.isi (.v 0) [.int], .not (.isi (.v 0) [.bool]), .cmp .ge (.v 0) (.k (.int 0))])]⟩
theorem evAny_f {P : Pg} {F : Fo} {e : C} {es : List C} {r : Ev} {S S1 : Sto} (h : ev P F e r S = .ok (.bl false) S1) : evAny P F (e :: es) r S = evAny P F es r S1 := by
  rw [evAny, h]
  rfl
theorem evAny_t {P : Pg} {F : Fo} {e : C} {es : List C} {r : Ev} {S S1 : Sto} (h : ev P F e r S = .ok (.bl true) S1) : evAny P F (e :: es) r S = .ok true S1 := by
  rw [evAny, h]
  rfl
theorem evAll_t {P : Pg} {F : Fo} {e : C} {es : List C} {r : Ev} {S S1 : Sto} (h : ev P F e r S = .ok (.bl true) S1) : evAll P F (e :: es) r S = evAll P F es r S1 := by
  rw [evAll, h]
  rfl
theorem evAll_f {P : Pg} {F : Fo} {e : C} {es : List C} {r : Ev} {S S1 : Sto} (h : ev P F e r S = .ok (.bl false) S1) : evAll P F (e :: es) r S = .ok false S1 := by
  rw [evAll, h]
  rfl
theorem ev_not' {P : Pg} {F : Fo} {e : C} {r : Ev} {b : Bool} {S S1 : Sto} (h : ev P F e r S = .ok (.bl b) S1) : ev P F (.not e) r S = .ok (.bl (!b)) S1 := by
  rw [ev, h]
  rfl
theorem ev_or' {P : Pg} {F : Fo} {es : List C} {r : Ev} {b : Bool} {S S1 : Sto} (h : evAny P F es r S = .ok b S1) : ev P F (.or es) r S = .ok (.bl b) S1 := by
  rw [ev, h]
  rfl
theorem ev_and' {P : Pg} {F : Fo} {es : List C} {r : Ev} {b : Bool} {S S1 : Sto} (h : evAll P F es r S = .ok b S1) : ev P F (.and es) r S = .ok (.bl b) S1 := by
  rw [ev, h]
  rfl
theorem if_t {P : Pg} {F : Fo} {t : C} {a b : List Pe.S} {r : Ev} {S S1 : Sto} (h : ev P F t r S = .ok (.bl true) S1) : exS P F (.ite t a b) r S = exB P F a r S1 := by
  rw [exS, h]
  rfl
theorem if_f {P : Pg} {F : Fo} {t : C} {a b : List Pe.S} {r : Ev} {S S1 : Sto} (h : ev P F t r S = .ok (.bl false) S1) : exS P F (.ite t a b) r S = exB P F b r S1 := by
  rw [exS, h]
  rfl
theorem ret_ok {P : Pg} {F : Fo} {e : C} {r : Ev} {v : Wv} {S S1 : Sto} (h : ev P F e r S = .ok v S1) : exS P F (.ret e) r S = .ok (.rt v) S1 := by
  rw [exS, h]
  rfl
theorem exB_nil {P : Pg} {F : Fo} {r : Ev} {S : Sto} : exB P F [] r S = .ok (.nx r) S := rfl
theorem asg_ok {P : Pg} {F : Fo} {e : C} {r r' : Ev} {g : Tg} {v : Wv} {S S1 : Sto} (h : ev P F e r S = .ok v S1) (hb : bindG g v r = some r') : exS P F (.asg g e) r S = .ok (.nx r') S1 := by
  rw [exS, h, R.bind_ok, hb]
theorem evs_cons {P : Pg} {F : Fo} {e : C} {es : List C} {r : Ev} {v : Wv} {vs : List Wv} {S S1 S2 : Sto} (h : ev P F e r S = .ok v S1) (h2 : evs P F es r S1 = .ok vs S2) : evs P F (e :: es) r S = .ok (v :: vs) S2 := by
  rw [evs, h, R.bind_ok, h2]
  rfl
theorem ev_v {P : Pg} {F : Fo} {i : Nat} {r : Ev} {S : Sto} {w : Wv} (h : r[i]? = some w) (n : w ≠ .unb) : ev P F (.v i) r S = .ok w S := by
  rw [ev]
  exact getV_some h n
theorem ev_fn {P : Pg} {F : Fo} {f : Nat} {es : List C} {r : Ev} {S S1 : Sto} {vs : List Wv} {x : R Wv} (h : evs P F es r S = .ok vs S1) (h2 : F f vs S1 = x) : ev P F (.fn f es) r S = x := by
  rw [ev, h, R.bind_ok, h2]
theorem mut_app {S : Sto} {l : Nat} {xs : List Wv} {a : Wv} (h : S[l]? = some (.lst xs)) (hl : xs.length < line) : mut1 .append S (.ref l) [a] = .ok .non (S.set l (.lst (xs ++ [a]))) := by
  unfold mut1
  simp only [h]
  rw [if_pos hl]
theorem isBx_of {S : Sto} {l : Nat} {xs : List Wv} (h : S[l]? = some (.lst xs)) : isBx S (.ref l) = true := by
  unfold isBx
  simp only [h]
theorem nodup_map {α β : Type} {f : α → β} {xs : List α} (h : xs.Nodup) (inj : ∀ x ∈ xs, ∀ y ∈ xs, f x = f y → x = y) : (xs.map f).Nodup :=
  List.pairwise_map.mpr (List.Pairwise.imp_of_mem (fun hx hy n e => n (inj _ hx _ hy e)) h)
end Pe

set_option Elab.async false
set_option linter.all false
set_option maxRecDepth 100000
set_option maxHeartbeats 2000000
/-! Runs: the source, the draw. -/
namespace Pe
open PySem L2
variable {P : Pg} {n l B : Nat} {S : Sto}
theorem run_draw (h : P.fn 25 = some fd_law_draw_v0) (hs : Src l B S) (hB : B ≤ 10 ^ 12) {m : Int} (h0 : 0 < m) (h1 : m ≤ 1000000) :
    ∃ (d : Int) (S' : Sto), callN P (n + 1) 25 [.ref l, .int m] S = .ok (.int d) S' ∧ 0 ≤ d ∧ d < m ∧ Src l (B + 1) S' ∧ Drw l S S' := by
  obtain ⟨a, b, hS, ha, hb⟩ := hs
  have hl := (List.getElem?_eq_some_iff.mp hS).1
  rw [call_eq h rfl rfl (by decide)]
  rcases hb with ⟨rfl, hb⟩ | ⟨hb1, hb2, hb3⟩
  · refine ⟨a % m, S.set l (src (a / m) 0), ?_, Int.emod_nonneg _ (by omega), Int.emod_lt_of_pos _ h0, ⟨a / m, 0, by rw [List.getElem?_set_self hl], Int.ediv_nonneg ha (by omega), .inl ⟨rfl, ?_⟩⟩, .inr ⟨_, _, rfl⟩⟩
    · simp [fd_law_draw_v0, getV, idxW, hS, atI, ixN, setI, mod_ok h0, fdiv_ok h0 (log2_64 (show m.natAbs < 2 ^ 64 by omega)), sweep_same]
    · have := Int.ediv_le_self m ha
      omega
  · have ea : a.natAbs < 2 ^ 64 := by omega
    have h5 := pow_ok (S := S) (i := a) (j := 5) (by decide) (by decide) ea
    have hbn := log2_64 (show b.natAbs < 2 ^ 64 by omega)
    have m1 := mul_ok (S := S) (i := 48271) (j := b) (by decide +kernel) hbn
    generalize ew : (a ^ (5 : Int).toNat + 48271 * b + 11) % 2147483647 = w at *
    have w0 : 0 ≤ w := by rw [← ew]; exact Int.emod_nonneg _ (by decide)
    have w1 : w < 2147483647 := by rw [← ew]; exact Int.emod_lt_of_pos _ (by decide)
    have hwn := log2_64 (show w.natAbs < 2 ^ 64 by omega)
    have ew' : (a ^ 5 + 48271 * b + 11) % 2147483647 = w := ew
    refine ⟨(w * 69621 % 2147483629 / 8) % m, S.set l (src w (b + 1)), ?_, Int.emod_nonneg _ (by omega), Int.emod_lt_of_pos _ h0, ⟨w, b + 1, by rw [List.getElem?_set_self hl], w0, .inr ⟨by omega, by omega, w1⟩⟩, .inr ⟨_, _, rfl⟩⟩
    have m2 : ∀ S : Sto, binW .mul S (.int w) (.int 69621) = some (.int (w * 69621)) := fun S => mul_ok (S := S) (i := w) (j := 69621) hwn (by decide +kernel)
    have m3 : ∀ (S : Sto) (x : Int), binW .mod S (.int x) (.int 2147483629) = some (.int (x % 2147483629)) := fun S x => mod_ok (by decide)
    have m4 : ∀ (S : Sto) (x : Int), binW .mod S (.int x) (.int 2147483647) = some (.int (x % 2147483647)) := fun S x => mod_ok (by decide)
    have m5 : ∀ (S : Sto) (x : Int), binW .fdiv S (.int x) (.int 8) = some (.int (x / 8)) := fun S x => fdiv_ok (by decide) (by decide +kernel)
    have m6 : ∀ (S : Sto) (x : Int), binW .mod S (.int x) (.int m) = some (.int (x % m)) := fun S x => mod_ok h0
    have nb : ¬ b = 0 := by omega
    have hset : ∀ o : Ob, (S.set l o)[l]? = some o := fun o => List.getElem?_set_self hl
    simp [fd_law_draw_v0, getV, idxW, hS, hset, atI, ixN, setI, h5, m1, m2, m3, m4, m5, m6, ew', nb, sweep_same]
theorem mem_int {ns : List Int} {j : Nat} (h : j < ns.length) : (ns.map Wv.int)[j]? = some (.int ns[j]) := by
  rw [List.getElem?_map, List.getElem?_eq_getElem h]
  rfl
theorem idx_scr {xs : List Wv} {k : Int} {S : Sto} {j : Nat} {x : Wv} (hj : k = (j : Int)) (hx : xs[j]? = some x) : idxW S (.scr xs) (.int k) = some x := by
  have hl := (List.getElem?_eq_some_iff.mp hx).1
  show atI xs k = some x
  unfold atI ixN
  rw [hj, if_pos (by omega), if_pos (by omega)]
  exact hx
theorem run_source (h : P.fn 24 = some fd_law_source_v0) {ns : List Int} (hn : ns.length ≤ 63) {j : Nat} (h1 : j ≤ 1000) :
    ∃ (a b : Int), callN P (n + 1) 24 [.scr (ns.map Wv.int), .int j] S = .ok (.ref S.length) (S ++ [src a b]) ∧ Src S.length 1 (S ++ [src a b]) := by
  rw [call_eq h rfl rfl (by decide)]
  have sw : ∀ a b : Int, sweep S.length (.ref S.length) (S ++ [src a b]) = S ++ [src a b] := fun a b => by
    unfold sweep
    rw [if_neg (by simp [under])]
  obtain ⟨q, hq⟩ : ∃ q : Int, q = 10 ^ 60 := ⟨_, rfl⟩
  obtain ⟨z, hz⟩ : ∃ z : Int, z = 10 ^ 18 := ⟨_, rfl⟩
  have q3 : q * q * q = 10 ^ 180 := by rw [hq]; decide +kernel
  have p60 : ∀ S : Sto, binW .pow S (.int 10) (.int 60) = some (.int q) := fun S => by rw [hq]; exact pow_ok (by decide) (by decide) (by decide)
  have p18 : ∀ S : Sto, binW .pow S (.int 10) (.int 18) = some (.int z) := fun S => by rw [hz]; exact pow_ok (by decide) (by decide) (by decide)
  have m1 : ∀ S : Sto, binW .mul S (.int q) (.int q) = some (.int (q * q)) := fun S => mul_ok (by rw [hq]; decide +kernel) (by rw [hq]; decide +kernel)
  have m2 : ∀ S : Sto, binW .mul S (.int (q * q)) (.int q) = some (.int (q * q * q)) := fun S => mul_ok (by rw [hq]; decide +kernel) (by rw [hq]; decide +kernel)
  have md : ∀ (S : Sto) (x : Int), binW .mod S (.int x) (.int (q * q * q)) = some (.int (x % (q * q * q))) := fun S x => mod_ok (by rw [q3]; decide +kernel)
  have md1 : ∀ (S : Sto) (x : Int), binW .mod S (.int x) (.int 2147483647) = some (.int (x % 2147483647)) := fun S x => mod_ok (by decide)
  have md2 : ∀ (S : Sto) (x : Int), binW .mod S (.int x) (.int 2147483629) = some (.int (x % 2147483629)) := fun S x => mod_ok (by decide)
  have m3 : ∀ S : Sto, binW .mul S (.int 7919) (.int j) = some (.int (7919 * j)) := fun S => mul_ok (by decide +kernel) (log2_64 (by omega))
  have m4 : ∀ (S : Sto) (k : Nat), k < 1000 → binW .mul S (.int 31) (.int k) = some (.int (31 * k)) := fun S k hk => mul_ok (by decide +kernel) (log2_64 (by omega))
  have pre : ∃ c : Int, 0 ≤ c ∧ c < 10 ^ 180 ∧ exB P (callN P n) (fd_law_source_v0.body.take 2) [.scr (ns.map Wv.int), .int j, .unb, .unb, .unb] S = .ok (.nx [.scr (ns.map Wv.int), .int j, .int c, .unb, .unb]) S := by
    by_cases hl : j < ns.length
    · have ix := idx_scr (S := S) (k := (j : Int)) rfl (mem_int hl)
      refine ⟨(if ns[j] < 0 then -ns[j] else ns[j]) % (q * q * q), Int.emod_nonneg _ (by rw [q3]; decide +kernel), by rw [← q3]; exact Int.emod_lt_of_pos _ (by rw [q3]; decide +kernel), ?_⟩
      have hl' : (j : Int) < (ns.length : Int) := by omega
      simp [fd_law_source_v0, getV, pr1, hl, hl', ix, p60, m1, m2, md]
    · have hl' : ¬ (j : Int) < (ns.length : Int) := by omega
      exact ⟨0, by omega, by decide +kernel, by simp [fd_law_source_v0, getV, pr1, hl, hl']⟩
  obtain ⟨c, hc0, hc1, e⟩ := pre
  have hb : fd_law_source_v0.body = fd_law_source_v0.body.take 2 ++ fd_law_source_v0.body.drop 2 := (List.take_append_drop _ _).symm
  rw [hb]
  show ∃ a b : Int, (exB P (callN P n) (fd_law_source_v0.body.take 2 ++ fd_law_source_v0.body.drop 2) [.scr (ns.map Wv.int), .int j, .unb, .unb, .unb] S).bind (fun f S1 => backF S.length f S1) = _ ∧ _
  rw [exB_pre e]
  have nl : newL true = newL true := rfl
  by_cases hc : z ≤ c
  · refine ⟨c, 0, ?_, ⟨c, 0, by simp, hc0, .inl ⟨rfl, hc1⟩⟩⟩
    simp [fd_law_source_v0, getV, p18, hc, newL, sw, show 2 ≤ line by decide]
  · have hi : evI P (callN P n) (.rng [.p2 .min (.p1 .len (.v 0)) (.k (.int 9))]) [.scr (ns.map Wv.int), .int j, .int c, .int ((c + 7919 * j + 29) % 2147483647), .unb] S = .ok (rngI (min ns.length 9)) S := by
      refine evI_rng (k := if (9 : Int) < (ns.length : Int) then 9 else (ns.length : Int)) ?_ (by split <;> omega) (by omega)
      simp [getV, pr1, pr2]
    obtain ⟨r', S', e1, rfl, m, u, hm0, hm1, rfl⟩ := for_inv (g := .nm 4) (b := [.asg (.nm 3) (.bin .mod (.bin .add (.bin .add (.bin .pow (.v 3) (.k (.int 5))) (.bin .mod (.idx (.v 0) (.v 4)) (.k (.int 2147483629)))) (.bin .mul (.k (.int 31)) (.v 4))) (.k (.int 2147483647)))]) hi
      (fun i r S2 => S2 = S ∧ ∃ (m : Int) (u : Wv), 0 ≤ m ∧ m < 2147483647 ∧ r = [.scr (ns.map Wv.int), .int j, .int c, .int m, u]) ⟨rfl, _, _, Int.emod_nonneg _ (by decide), Int.emod_lt_of_pos _ (by decide), rfl⟩ (fun _ _ _ _ _ => rfl) (fun i x r S2 hx hI => by
        obtain ⟨rfl, m, u, hm0, hm1, rfl⟩ := hI
        obtain ⟨hi1, rfl⟩ := rng_at hx
        have hi2 : i < ns.length := by omega
        have ix := idx_scr (S := S2) (k := (i : Int)) rfl (mem_int hi2)
        have h5 := pow_ok (S := S2) (i := m) (j := 5) (by decide) (by decide) (by omega)
        exact ⟨_, [.scr (ns.map Wv.int), .int j, .int c, .int ((m ^ 5 + ns[i] % 2147483629 + 31 * i) % 2147483647), .int i], S2, rfl, by simp [getV, h5, ix, md1, md2, m4 S2 i (by omega)], rfl, _, _, Int.emod_nonneg _ (by decide), Int.emod_lt_of_pos _ (by decide), rfl⟩)
    refine ⟨m, 1, ?_, ⟨m, 1, by simp, hm0, .inr ⟨by omega, by omega, hm1⟩⟩⟩
    have p1 : exS P (callN P n) (.ite (.cmp .ge (.v 2) (.bin .pow (.k (.int 10)) (.k (.int 18)))) [.ret (.dsp true [.v 2, .k (.int 0)])] []) [.scr (ns.map Wv.int), .int j, .int c, .unb, .unb] S' = .ok (.nx [.scr (ns.map Wv.int), .int j, .int c, .unb, .unb]) S' := by
      simp [getV, p18, hc]
    have p2 : exS P (callN P n) (.asg (.nm 3) (.bin .mod (.bin .add (.bin .add (.v 2) (.bin .mul (.k (.int 7919)) (.v 1))) (.k (.int 29))) (.k (.int 2147483647)))) [.scr (ns.map Wv.int), .int j, .int c, .unb, .unb] S' = .ok (.nx [.scr (ns.map Wv.int), .int j, .int c, .int ((c + 7919 * j + 29) % 2147483647), .unb]) S' := by
      simp [getV, m3, md1]
    show (exB P (callN P n) [_, _, _, _] _ S').bind _ = _
    rw [exB_go p1, exB_go p2, exB_go e1]
    simp [getV, newL, sw, show 2 ≤ line by decide]
end Pe

set_option Elab.async false
set_option linter.all false
set_option maxRecDepth 100000
set_option maxHeartbeats 2000000
/-! Runs: names. -/
namespace Pe
open PySem L2
variable {P : Pg} {n l B : Nat} {S : Sto}
abbrev LET : Str := "abcdefghijklmnopqrstuvwxyz"
def low (c : Nat) : Prop := 97 ≤ c ∧ c < 123
instance low_dec (c : Nat) : Decidable (low c) := by
  unfold low
  infer_instance
theorem let_cps : LET.cps.toList = (List.range 26).map fun i => 97 + i := by decide +kernel
theorem low_iff {c : Nat} : c ∈ LET.cps.toList ↔ low c := by
  rw [let_cps, List.mem_map]
  constructor
  · rintro ⟨i, h, rfl⟩
    have := List.mem_range.mp h
    exact ⟨by omega, by omega⟩
  · rintro ⟨h1, h2⟩
    exact ⟨c - 97, List.mem_range.mpr (by omega), by omega⟩
/-- a text from its signs -/
abbrev tx (cs : List Nat) : Str := ⟨cs.toArray⟩
theorem idx_let {i : Nat} (h : i < 26) {k : Int} (hk : k = (i : Int)) : idxW S (.str LET) (.int k) = some (.str (tx [97 + i])) := by
  have hl : LET.length ≤ line := by decide +kernel
  show (if LET.length ≤ line then (atI LET.cps.toList k).map fun c => Wv.str ⟨#[c]⟩ else none) = _
  rw [if_pos hl, let_cps]
  unfold atI ixN
  have e : ((List.range 26).map fun i => 97 + i).length = 26 := by simp
  rw [e, if_pos (by omega), if_pos (by omega), hk]
  simp [h]
theorem join_tx : ∀ cs : List Nat, Str.join "" (cs.map fun c => tx [c]) = tx cs
  | [] => rfl
  | [c] => rfl
  | c :: d :: cs => by
    have ih := join_tx (d :: cs)
    show tx [c] ++ "" ++ Str.join "" ((d :: cs).map fun c => tx [c]) = _
    rw [ih]
    show (⟨(#[c] ++ (Str.ofString "").cps) ++ (d :: cs).toArray⟩ : Str) = _
    have e : (Str.ofString "").cps = #[] := by decide +kernel
    rw [e]
    simp
theorem strs_tx : ∀ cs : List Nat, strsOf (cs.map fun c => Wv.str (tx [c])) = some (cs.map fun c => tx [c])
  | [] => rfl
  | c :: cs => by
    show (strsOf (cs.map fun c => Wv.str (tx [c]))).map _ = _
    rw [strs_tx cs]
    rfl
theorem sum_tx : ∀ cs : List Nat, ((cs.map fun c => tx [c]).map (·.length)).sum = cs.length
  | [] => rfl
  | c :: cs => by
    simp only [List.map_cons, List.sum_cons, sum_tx cs, List.length_cons]
    show 1 + _ = _
    omega
theorem join_ok {cs : List Nat} (h : cs.length ≤ 1000) : joinW "" S (.lst (cs.map fun c => .str (tx [c]))) = some (.str (tx cs)) := by
  have e : joinW "" S (.lst (cs.map fun c => .str (tx [c]))) = (strsOf (cs.map fun c => Wv.str (tx [c]))).bind fun ys => if (ys.map (·.length)).sum + ys.length * (Str.ofString "").length ≤ 16777216 then some (.str (Txt.join "" ys)) else none := rfl
  rw [e, strs_tx, Option.bind_some, sum_tx, show Txt.join "" (cs.map fun c => tx [c]) = Str.join "" (cs.map fun c => tx [c]) from StrLaws.glued_eq_join _ _, join_tx]
  have z : (Str.ofString "").length = 0 := by decide +kernel
  rw [z, if_pos (by omega)]
theorem len_tx (cs : List Nat) : (tx cs).length = cs.length := by
  show cs.toArray.size = _
  simp
theorem cut_lo {cs : List Nat} {k : Int} {i : Nat} (hk : k = (i : Int)) (hi : i ≤ cs.length) (hl : cs.length ≤ 1000) : slcW S (.str (tx cs)) none (some k) = some (.str (tx (cs.take i))) := by
  have e : slcW S (.str (tx cs)) none (some k) = if (tx cs).length ≤ line then some (.str (cutS (tx cs) none (some k))) else none := rfl
  rw [e, if_pos (by rw [len_tx]; exact Nat.le_trans hl (by decide)), hk]
  unfold cutS
  rw [len_tx, HT.sIx_none, HT.sIx_nat, Nat.min_eq_left hi]
  simp
theorem cut_hi {cs : List Nat} {k : Int} {i : Nat} (hk : k = (i : Int)) (hi : i ≤ cs.length) (hl : cs.length ≤ 1000) : slcW S (.str (tx cs)) (some k) none = some (.str (tx (cs.drop i))) := by
  have e : slcW S (.str (tx cs)) (some k) none = if (tx cs).length ≤ line then some (.str (cutS (tx cs) (some k) none)) else none := rfl
  rw [e, if_pos (by rw [len_tx]; exact Nat.le_trans hl (by decide)), hk]
  unfold cutS
  rw [len_tx, HT.sIx_none, HT.sIx_nat, Nat.min_eq_left hi]
  congr 3
  show ((cs.toArray.toList.drop i).take (cs.length - i)).toArray = _
  rw [List.take_of_length_le (by simp)]
theorem cat_tx {xs ys : List Nat} (h : xs.length + ys.length ≤ 1000) : binW .add S (.str (tx xs)) (.str (tx ys)) = some (.str (tx (xs ++ ys))) := by
  show (if (tx xs).length + (tx ys).length ≤ line then some (Wv.str (tx xs ++ tx ys)) else none) = _
  rw [len_tx, len_tx, if_pos (Nat.le_trans h (by decide))]
  show some (Wv.str ⟨xs.toArray ++ ys.toArray⟩) = _
  simp
/-- the k-th name -/
def nmK (base : List Nat) (at' : Nat) (b k : Nat) : List Nat := base.take at' ++ [97 + (b + 5 * k) % 26] ++ base.drop at'
theorem nmK_inj {base : List Nat} {at' b i j : Nat} (hi : i < 7) (hj : j < 7) (h : nmK base at' b i = nmK base at' b j) : i = j := by
  unfold nmK at h
  rw [List.append_assoc, List.append_assoc] at h
  have h2 := List.append_cancel_left h
  simp at h2
  omega
/-- a name: one to eight letters -/
def Nm (x : Str) : Prop := 1 ≤ x.length ∧ x.length ≤ 8 ∧ ∀ c ∈ x.cps.toList, low c
theorem nmK_nm {base : List Nat} {at' b k : Nat} (hb : base.length ≤ 7) (hl : ∀ c ∈ base, low c) : Nm (tx (nmK base at' b k)) := by
  have e : (nmK base at' b k).length = base.length + 1 := by
    unfold nmK
    simp
    omega
  refine ⟨by rw [len_tx, e]; omega, by rw [len_tx, e]; omega, fun c hc => ?_⟩
  have hc' : c ∈ nmK base at' b k := by simpa using hc
  unfold nmK at hc'
  simp only [List.mem_append, List.mem_singleton] at hc'
  rcases hc' with (h | h) | h
  · exact hl c (List.mem_of_mem_take h)
  · rw [h]
    exact ⟨by omega, by omega⟩
  · exact hl c (List.mem_of_mem_drop h)
structure Labels (ls : List Str) : Prop where
  nd : ls.Nodup
  nm : ∀ x ∈ ls, Nm x
  few : 1 ≤ ls.length ∧ ls.length ≤ 7
theorem pick4 {d : Int} (h0 : 0 ≤ d) (h1 : d < 4) : ∃ k : Nat, k ≤ 7 ∧ idxW S (.lst [.int 0, .int 1, .int 2, .int 7]) (.int d) = some (.int k) := by
  have : d = 0 ∨ d = 1 ∨ d = 2 ∨ d = 3 := by omega
  rcases this with rfl | rfl | rfl | rfl
  · exact ⟨0, by decide, rfl⟩
  · exact ⟨1, by decide, rfl⟩
  · exact ⟨2, by decide, rfl⟩
  · exact ⟨7, by decide, rfl⟩
theorem run_names (h : P.fn 26 = some fd_law_random_names) (hd : P.fn 25 = some fd_law_draw_v0) (hs : Src l B S) (hB : B + 20 ≤ 10 ^ 12) {m : Nat} (h0 : 1 ≤ m) (h1 : m ≤ 7) :
    ∃ (ls : List Str) (S' : Sto), callN P (n + 2) 26 [.ref l, .int m] S = .ok (.lst (ls.map Wv.str)) S' ∧ Labels ls ∧ ls.length = m ∧ Src l (B + 20) S' ∧ Drw l S S' := by
  rw [call_eq h rfl rfl (by decide)]
  obtain ⟨d1, S1, e1, d10, d11, s1, w1⟩ := run_draw (n := n) hd hs (by omega) (m := 4) (by decide) (by decide)
  obtain ⟨k, hk, ek⟩ := pick4 (S := S1) d10 d11
  have hi : evI P (callN P (n + 1)) (.rng [.idx (.dsp false [.k (.int 0), .k (.int 1), .k (.int 2), .k (.int 7)]) (.fn 25 [.v 0, .k (.int 4)])]) [.ref l, .int m, .str LET, .unb, .unb, .unb, .unb] S = .ok (rngI k) S1 := by
    refine evI_rng (k := (k : Int)) ?_ rfl (by omega)
    simp [getV, newL, show 4 ≤ line by decide, e1, ek]
  obtain ⟨ys, S2, e2, cs, hcl, hcs, rfl, s2, w2⟩ := lc_inv (bx := false) (own := [6]) (g := .nm 6) (cond := []) (e := .idx (.v 2) (.fn 25 [.v 0, .k (.int 26)])) hi (by rw [rng_len]; exact Nat.le_trans hk (by decide))
    (fun i ys S2 => ∃ cs : List Nat, cs.length = i ∧ (∀ c ∈ cs, low c) ∧ ys = (cs.map fun c => Wv.str (tx [c])) ∧ Src l (B + 1 + i) S2 ∧ Drw l S S2) ⟨[], rfl, by simp, rfl, s1, w1⟩ (fun _ _ _ _ _ => rfl) (fun i x ys S2 hx hI => by
      obtain ⟨cs, hcl, hcs, rfl, s2, w2⟩ := hI
      obtain ⟨hi, rfl⟩ := rng_at hx
      obtain ⟨d, S3, e3, d0, d1, s3, w3⟩ := run_draw (n := n) hd s2 (by omega) (m := 26) (by decide) (by decide)
      refine ⟨_, S2, rfl, .inr ⟨rfl, _, S3, ?_, cs ++ [97 + d.toNat], by simp [hcl], ?_, by simp; rfl, s3.mono (by omega), w2.trans w3⟩⟩
      · simp [getV, e3, idx_let (S := S3) (i := d.toNat) (by omega) (k := d) (by omega)]
      · intro c hc
        rcases List.mem_append.mp hc with hc | hc
        · exact hcs c hc
        · rw [List.mem_singleton.mp hc]
          exact ⟨by omega, by omega⟩)
  rw [rng_len] at hcl s2
  have hc7 : cs.length ≤ 7 := by omega
  rw [newL_f (by rw [List.length_map]; exact Nat.le_trans hc7 (by decide))] at e2
  obtain ⟨d3, S3, e3, d30, d31, s3, w3⟩ := run_draw (n := n) hd s2 (by omega) (m := (cs.length : Int) + 1) (by omega) (by omega)
  obtain ⟨d4, S4, e4, d40, d41, s4, w4⟩ := run_draw (n := n) hd s3 (by omega) (m := 26) (by decide) (by decide)
  refine ⟨(List.range m).map fun k => tx (nmK cs d3.toNat d4.toNat k), S4, ?_, ⟨?_, ?_, by simp; omega⟩, by simp, s4.mono (by omega), (w2.trans w3).trans w4⟩
  · have p1 : exS P (callN P (n + 1)) (.asg (.nm 2) (.k (.str "abcdefghijklmnopqrstuvwxyz"))) [.ref l, .int m, .unb, .unb, .unb, .unb, .unb] S = .ok (.nx [.ref l, .int m, .str LET, .unb, .unb, .unb, .unb]) S := by simp
    have p2 : exS P (callN P (n + 1)) (.asg (.nm 3) (.jn (.k (.str "")) (.lc false [6] (.nm 6) (.rng [.idx (.dsp false [.k (.int 0), .k (.int 1), .k (.int 2), .k (.int 7)]) (.fn 25 [.v 0, .k (.int 4)])]) [] (.idx (.v 2) (.fn 25 [.v 0, .k (.int 26)]))))) [.ref l, .int m, .str LET, .unb, .unb, .unb, .unb] S = .ok (.nx [.ref l, .int m, .str LET, .str (tx cs), .unb, .unb, .unb]) S2 := by
      rw [exS, ev, ev, R.bind_ok]
      dsimp only
      rw [e2, R.bind_ok, join_ok (by omega)]
      simp
    have p3 : exS P (callN P (n + 1)) (.asg (.nm 4) (.fn 25 [.v 0, .bin .add (.p1 .len (.v 3)) (.k (.int 1))])) [.ref l, .int m, .str LET, .str (tx cs), .unb, .unb, .unb] S2 = .ok (.nx [.ref l, .int m, .str LET, .str (tx cs), .int d3, .unb, .unb]) S3 := by
      have : cs.length ≤ line := Nat.le_trans hc7 (by decide)
      simp [getV, pr1, len_tx, this, e3]
    have p4 : exS P (callN P (n + 1)) (.asg (.nm 5) (.fn 25 [.v 0, .k (.int 26)])) [.ref l, .int m, .str LET, .str (tx cs), .int d3, .unb, .unb] S3 = .ok (.nx [.ref l, .int m, .str LET, .str (tx cs), .int d3, .int d4, .unb]) S4 := by simp [getV, e4]
    have hi2 : evI P (callN P (n + 1)) (.rng [.v 1]) [.ref l, .int m, .str LET, .str (tx cs), .int d3, .int d4, .unb] S4 = .ok (rngI m) S4 := evI_rng (k := (m : Int)) (by simp [getV]) rfl (by omega)
    have p5 := lc_map (bx := false) (own := [6]) (g := .nm 6) (cond := []) (e := .bin .add (.bin .add (.slc (.v 3) none (some (.v 4))) (.idx (.v 2) (.bin .mod (.bin .add (.v 5) (.bin .mul (.k (.int 5)) (.v 6))) (.k (.int 26))))) (.slc (.v 3) (some (.v 4)) none)) hi2 (by rw [rng_len]; exact Nat.le_trans h1 (by decide))
      (fun x => match x with
        | .int k => .str (tx (nmK cs d3.toNat d4.toNat k.toNat))
        | w => w) rfl (fun x hx => by
        obtain ⟨i, hi, rfl⟩ := List.mem_map.mp hx
        have hi := List.mem_range.mp hi
        refine ⟨_, rfl, rfl, ?_⟩
        have c1 := cut_lo (S := S4) (cs := cs) (k := d3) (i := d3.toNat) (by omega) (by omega) (by omega)
        have c2 := cut_hi (S := S4) (cs := cs) (k := d3) (i := d3.toNat) (by omega) (by omega) (by omega)
        have c3 : binW .mul S4 (.int 5) (.int i) = some (.int (5 * i)) := mul_ok (by decide +kernel) (log2_64 (by omega))
        have c4 : binW .mod S4 (.int (d4 + 5 * i)) (.int 26) = some (.int ((d4 + 5 * i) % 26)) := mod_ok (by decide)
        have c5 := idx_let (S := S4) (i := (d4.toNat + 5 * i) % 26) (by omega) (k := (d4 + 5 * i) % 26) (by omega)
        have c6 := cat_tx (S := S4) (xs := cs.take d3.toNat) (ys := [97 + (d4.toNat + 5 * i) % 26]) (by simp; omega)
        have c7 := cat_tx (S := S4) (xs := cs.take d3.toNat ++ [97 + (d4.toNat + 5 * i) % 26]) (ys := cs.drop d3.toNat) (by simp; omega)
        have c8 : binW .add S4 (.str (tx (cs.take d3.toNat ++ [97 + (d4.toNat + 5 * i) % 26]))) (.str (tx (cs.drop d3.toNat))) = some (.str (tx (cs.take d3.toNat ++ (97 + (d4.toNat + 5 * i) % 26) :: cs.drop d3.toNat))) := by simpa using c7
        simp [getV, c1, c2, c3, c4, c5, c6, nmK, c8])
    show (exB P (callN P (n + 1)) [_, _, _, _, _] [.ref l, .int m, .unb, .unb, .unb, .unb, .unb] S).bind _ = _
    rw [exB_go p1, exB_go p2, exB_go p3, exB_go p4, exB, exS, p5, newL_f (by simp; exact Nat.le_trans h1 (by decide))]
    simp [sweep_same, ((w2.trans w3).trans w4).len]
  · refine nodup_map List.nodup_range fun i hi j hj e => ?_
    have e' : nmK cs d3.toNat d4.toNat i = nmK cs d3.toNat d4.toNat j := by
      have := congrArg (fun z : Str => z.cps.toList) e
      simpa using this
    exact nmK_inj (Nat.lt_of_lt_of_le (List.mem_range.mp hi) h1) (Nat.lt_of_lt_of_le (List.mem_range.mp hj) h1) e'
  · intro x hx
    obtain ⟨k, _, rfl⟩ := List.mem_map.mp hx
    exact nmK_nm hc7 hcs
end Pe

set_option Elab.async false
set_option linter.all false
set_option maxRecDepth 100000
set_option maxHeartbeats 2000000
/-! Runs: checks of names, bases, rows. -/
namespace Pe
open PySem L2
variable {P : Pg} {n l B : Nat} {S : Sto}
abbrev stl (ls : List Str) : List Wv := ls.map Wv.str
theorem any_str {x : Str} : ∀ ls : List Str, ((stl ls).any fun y => eqF y (.str x)) = decide (x ∈ ls)
  | [] => by simp
  | y :: ls => by
    simp only [List.map_cons, List.any_cons, any_str ls, List.mem_cons]
    by_cases e : x = y
    · subst e; simp [eqF]
    · have : (y == x) = false := by simpa using fun h : y = x => e h.symm
      simp [eqF, this, e]
theorem flat_stl : ∀ ls : List Str, (stl ls).all flatW = true
  | [] => rfl
  | y :: ls => by simp only [List.map_cons, List.all_cons, flat_stl ls]; rfl
theorem in_lst {x : Str} {ls : List Str} : inW S (.str x) (.lst (stl ls)) = some (decide (x ∈ ls)) := by
  show (if flatW (.str x) = true ∧ (stl ls).all flatW = true then some ((stl ls).any fun y => eqF y (.str x)) else _) = _
  rw [if_pos ⟨rfl, flat_stl ls⟩, any_str]
theorem in_ref {x : Str} {ls : List Str} {a : Nat} (h : S[a]? = some (.lst (stl ls))) : inW S (.str x) (.ref a) = some (decide (x ∈ ls)) := by
  unfold inW
  simp only [h]
  rw [if_pos ⟨rfl, flat_stl ls⟩, any_str]
theorem in_let {c : Nat} : inW S (.str (tx [c])) (.str LET) = some (decide (low c)) := by
  show (match (tx [c]).cps.toList with | [c] => some (decide (c ∈ LET.cps.toList)) | _ => none) = _
  show some (decide (c ∈ LET.cps.toList)) = _
  congr 1
  exact decide_eq_decide.mpr low_iff
def nmB (x : Str) : Bool := decide (1 ≤ x.length) && decide (x.length ≤ 8) && x.cps.toList.all fun c => decide (low c)
theorem nmB_iff {x : Str} : nmB x = true ↔ Nm x := by
  unfold nmB Nm
  rw [Bool.and_eq_true, Bool.and_eq_true, decide_eq_true_eq, decide_eq_true_eq, List.all_eq_true, and_assoc]
  simp only [decide_eq_true_eq]
def isN : Wv → Bool
  | .str x => nmB x
  | _ => false
theorem bls_map {α : Type} (f : α → Bool) : ∀ xs : List α, blsOf (xs.map fun x => Wv.bl (f x)) = some (xs.map f)
  | [] => rfl
  | x :: xs => by
    show (blsOf (xs.map fun x => Wv.bl (f x))).map _ = _
    rw [bls_map f xs]
    rfl
theorem all_ok {α : Type} {f : α → Bool} {xs : List α} : pr1 .all S (.lst (xs.map fun x => .bl (f x))) = some (.bl (xs.all f)) := by
  show (blsOf (xs.map fun x => Wv.bl (f x))).map _ = _
  rw [bls_map]
  simp
theorem len_ok {x : Str} (h : x.length ≤ 1000000) : pr1 .len S (.str x) = some (.int x.length) := by
  show (if x.length ≤ line then some (Wv.int x.length) else none) = _
  rw [if_pos (Nat.le_trans h (by decide))]
theorem isi_str {v : Wv} (h : gd v = true) : isAny S v [.str] = some (match v with | .str _ => true | _ => false) := by
  cases v <;> first | rfl | simp [gd] at h
/-- all signs are letters -/
theorem ev_letters {F : Fo} {x : Str} {r : Ev} {own : Nat} (hr : r[0]? = some (.str x)) (hx : x.length ≤ 1000) (h1 : own < r.length) (h0 : own ≠ 0) :
    ev P F (.p1 .all (.lc false [own] (.nm own) (.any (.v 0)) [] (.cmp .isin (.v own) (.k (.str LET))))) r S = .ok (.bl (x.cps.toList.all fun c => decide (low c))) S := by
  have hv : ev P F (.v 0) r S = .ok (.str x) S := by rw [ev]; unfold getV; rw [hr]
  have hi : evI P F (.any (.v 0)) r S = .ok ⟨x.cps.toList.map fun c => .str ⟨#[c]⟩, none⟩ S := by
    rw [evI, hv, R.bind_ok]
    rfl
  have hl : (x.cps.toList.map fun c => Wv.str ⟨#[c]⟩).length ≤ line := by
    rw [List.length_map]
    have : x.cps.toList.length = x.length := by simp [Str.length]
    rw [this]
    exact Nat.le_trans hx (by decide)
  have e := lc_map (bx := false) (own := [own]) (g := .nm own) (cond := []) (e := .cmp .isin (.v own) (.k (.str LET))) hi hl (fun w => match w with
      | .str y => .bl (decide (low (y.cps.toList.headD 0)))
      | w => w) rfl (fun w hw => by
    obtain ⟨c, hc, rfl⟩ := List.mem_map.mp hw
    refine ⟨_, by simp [h1]; rfl, rfl, ?_⟩
    have g : getV (r.set own (.str ⟨#[c]⟩)) own S = .ok (.str (tx [c])) S := getV_some (by rw [List.getElem?_set_self h1]) (by simp)
    rw [ev, ev, g, R.bind_ok, ev, R.bind_ok]
    show R.of ((inW S (.str (tx [c])) (.str LET)).map Wv.bl) S = _
    rw [in_let]
    rfl)
  rw [ev, e, newL_f (by rw [List.length_map]; exact hl), R.bind_ok, List.map_map]
  have : (List.map ((fun w => match w with
      | Wv.str y => Wv.bl (decide (low (y.cps.toList.headD 0)))
      | w => w) ∘ fun c => Wv.str ⟨#[c]⟩) x.cps.toList) = x.cps.toList.map fun c => Wv.bl (decide (low c)) := rfl
  rw [this, all_ok]
  rfl
theorem run_isname (h : P.fn 6 = some fd_is_name) {v : Wv} (hv : gd v = true) (hw : wei v ≤ 200000) : callN P (n + 1) 6 [v] S = .ok (.bl (isN v)) S := by
  rw [call_eq h rfl rfl (by decide)]
  have nu := gd_nu hv
  have g0 : ∀ S : Sto, getV [v, .unb] 0 S = .ok v S := fun S => getV_some rfl nu
  cases v with
  | str x =>
    have hx : x.length ≤ 200000 := hw
    have l1 := len_ok (S := S) (x := x) (by omega)
    by_cases c : 1 ≤ x.length ∧ x.length ≤ 8
    · have c1 : (1 : Int) ≤ x.length := by omega
      have c2 : (x.length : Int) ≤ 8 := by omega
      have e := ev_letters (P := P) (F := callN P n) (S := S) (r := [.str x, .unb]) (own := 1) rfl (by omega) (by simp) (by decide)
      have p1 : exS P (callN P n) (.ite (.or [.not (.isi (.v 0) [.str]), .not (.cmp2 .le .le (.k (.int 1)) (.p1 .len (.v 0)) (.k (.int 8)))]) [.ret (.k (.bl false))] []) [.str x, .unb] S = .ok (.nx [.str x, .unb]) S := by
        simp [g0, isi_str hv, l1, c1, c2]
      show (exB P (callN P n) [_, _] [.str x, .unb] S).bind _ = _
      rw [exB_go p1, exB, exS]
      show (((ev P (callN P n) (.p1 .all (.lc false [1] (.nm 1) (.any (.v 0)) [] (.cmp .isin (.v 1) (.k (.str LET))))) [.str x, .unb] S).bind _).bind _).bind _ = _
      rw [e]
      simp [isN, nmB, c, sweep_same]
    · have e : (decide (1 ≤ x.length) && decide (x.length ≤ 8)) = false := by simpa using fun a => Nat.lt_of_not_le fun b => c ⟨a, b⟩
      have e' : isN (.str x) = false := by
        show (decide (1 ≤ x.length) && decide (x.length ≤ 8) && x.cps.toList.all fun c => decide (low c)) = false
        rw [e]
        rfl
      rw [e']
      by_cases c1 : 1 ≤ x.length
      · have c2 : ¬ (x.length : Int) ≤ 8 := fun z => c ⟨c1, by omega⟩
        have c1' : (1 : Int) ≤ x.length := by omega
        simp [fd_is_name, g0, isi_str hv, l1, c1', c2, sweep_same]
      · have c1' : ¬ (1 : Int) ≤ x.length := by omega
        simp [fd_is_name, g0, isi_str hv, l1, c1', sweep_same]
  | _ => first
    | (simp [gd] at hv; done)
    | (simp [fd_is_name, g0, isi_str hv, isN, sweep_same]; done)
/-- are_bases says yes -/
theorem dups_nodup : ∀ xs : List Str, xs.Nodup → xs.eraseDups.length = xs.length := fun xs h => by
  have key : ∀ ys : List Str, ys.reverse.Nodup → ys.reverse.eraseDups.length = ys.length := fun ys => by
    induction ys with
    | nil => intro _; rfl
    | cons x ys ih =>
      intro h
      rw [List.reverse_cons] at h ⊢
      obtain ⟨h1, _, h3⟩ := List.nodup_append.mp h
      rw [dups_snoc, if_neg, ih h1, List.length_cons]
      intro z
      obtain ⟨y, hy, e⟩ := List.any_eq_true.mp z
      exact h3 y hy x (by simp) (by simpa using e)
  have := key xs.reverse (by rwa [List.reverse_reverse])
  rwa [List.reverse_reverse, List.length_reverse] at this
theorem strs_stl : ∀ ls : List Str, strsOf (stl ls) = some ls
  | [] => rfl
  | x :: ls => by
    show (strsOf (stl ls)).map _ = _
    rw [strs_stl ls]
    rfl
theorem run_bases (h : P.fn 8 = some fd_are_bases) {bs ls : List Str} (hs : ∀ b ∈ bs, b ∈ ls) (nd : bs.Nodup) (hb : bs.length ≤ 900) : callN P (n + 1) 8 [.tup (stl bs), .lst (stl ls)] S = .ok (.bl true) S := by
  rw [call_eq h rfl rfl (by decide)]
  have hi : evI P (callN P n) (.any (.v 0)) [.tup (stl bs), .lst (stl ls), .unb, .unb] S = .ok ⟨stl bs, none⟩ S := by
    simp [getV, walkOf]
  have lb : (stl bs).length ≤ line := by rw [List.length_map]; exact Nat.le_trans hb (by decide)
  have e := lc_map (bx := false) (own := [3]) (g := .nm 3) (cond := [.and [.isi (.v 3) [.str], .cmp .isin (.v 3) (.v 1)]]) (e := .v 3) hi lb id rfl (fun w hw => by
    obtain ⟨b, hb, rfl⟩ := List.mem_map.mp hw
    refine ⟨_, rfl, ?_, rfl⟩
    have := in_lst (S := S) (x := b) (ls := ls)
    simp [getV, isAny, isTy, cmpW, this, hs b hb])
  rw [List.map_id, newL_f lb] at e
  have p1 : exS P (callN P n) (.ite (.not (.isi (.v 0) [.tuple, .list])) [.ret (.k (.bl false))] []) [.tup (stl bs), .lst (stl ls), .unb, .unb] S = .ok (.nx [.tup (stl bs), .lst (stl ls), .unb, .unb]) S := by
    simp [getV, isAny, isTy]
  have p2 : exS P (callN P n) (.asg (.nm 2) (.lc false [3] (.nm 3) (.any (.v 0)) [.and [.isi (.v 3) [.str], .cmp .isin (.v 3) (.v 1)]] (.v 3))) [.tup (stl bs), .lst (stl ls), .unb, .unb] S = .ok (.nx [.tup (stl bs), .lst (stl ls), .lst (stl bs), .unb]) S := by
    rw [exS, e]
    rfl
  have hset : pr1 .lenset S (.lst (stl bs)) = some (.int bs.length) := by
    show (if (stl bs).length < 1000 then (strsOf (stl bs)).map fun t => Wv.int (lenSet t) else none) = _
    rw [if_pos (by rw [List.length_map]; omega), strs_stl]
    show some (Wv.int (bs.eraseDups.length : Nat)) = _
    rw [dups_nodup bs nd]
  have h1 : pr1 .len S (.lst (stl bs)) = some (.int bs.length) := by
    show some (Wv.int (stl bs).length) = _
    rw [List.length_map]
  have h2 : pr1 .len S (.tup (stl bs)) = some (.int bs.length) := by
    show some (Wv.int (stl bs).length) = _
    rw [List.length_map]
  show (exB P (callN P n) [_, _, _] [.tup (stl bs), .lst (stl ls), .unb, .unb] S).bind _ = _
  rw [exB_go p1, exB_go p2]
  simp [getV, h1, h2, hset, sweep_same]
/-! ### rows -/
abbrev row (p : Str × List Str) : Wv := .tup [.str p.1, .tup (stl p.2)]
theorem run_rows (h : P.fn 9 = some fd_are_rows) {L : List (Str × List Str)} (hL : L.length ≤ 1000) : callN P (n + 1) 9 [.lst (L.map row)] S = .ok (.bl true) S := by
  rw [call_eq h rfl rfl (by decide)]
  have hi : evI P (callN P n) (.any (.v 0)) [.lst (L.map row), .unb] S = .ok ⟨L.map row, none⟩ S := by
    simp [getV, walkOf]
  have lb : (L.map row).length ≤ line := by rw [List.length_map]; exact Nat.le_trans hL (by decide)
  have e := lc_map (bx := false) (own := [1]) (g := .nm 1) (cond := []) (e := .and [.isi (.v 1) [.tuple], .cmp .eq (.p1 .len (.v 1)) (.k (.int 2))]) hi lb (fun _ => .bl true) rfl (fun w hw => by
    obtain ⟨p, hp, rfl⟩ := List.mem_map.mp hw
    refine ⟨_, rfl, rfl, ?_⟩
    simp [getV, isAny, isTy, pr1])
  rw [List.map_map, newL_f (by rw [List.length_map]; exact Nat.le_trans hL (by decide))] at e
  have ea : pr1 .all S (.lst (L.map ((fun _ => Wv.bl true) ∘ row))) = some (.bl true) := by
    have := all_ok (S := S) (f := fun _ : Str × List Str => true) (xs := L)
    rw [show L.map ((fun _ => Wv.bl true) ∘ row) = L.map fun _ => Wv.bl true from rfl, this]
    simp
  have p1 : exS P (callN P n) (.ret (.and [.isi (.v 0) [.tuple, .list], .p1 .all (.lc false [1] (.nm 1) (.any (.v 0)) [] (.and [.isi (.v 1) [.tuple], .cmp .eq (.p1 .len (.v 1)) (.k (.int 2))]))])) [.lst (L.map row), .unb] S = .ok (.rt (.bl true)) S := by
    have a1 : ev P (callN P n) (.isi (.v 0) [.tuple, .list]) [.lst (L.map row), .unb] S = .ok (.bl true) S := by simp [getV, isAny, isTy]
    have a2 : ev P (callN P n) (.p1 .all (.lc false [1] (.nm 1) (.any (.v 0)) [] (.and [.isi (.v 1) [.tuple], .cmp .eq (.p1 .len (.v 1)) (.k (.int 2))]))) [.lst (L.map row), .unb] S = .ok (.bl true) S := by
      rw [ev, e, R.bind_ok, ea]
      rfl
    rw [exS, ev, evAll, a1, R.bind_ok, asBool, R.bind_ok, if_pos rfl, evAll, a2, R.bind_ok, asBool, R.bind_ok, if_pos rfl, evAll]
    rfl
  show (exB P (callN P n) [_] [.lst (L.map row), .unb] S).bind _ = _
  rw [exB_rt p1]
  simp [sweep_same]
end Pe

set_option Elab.async false
set_option linter.all false
set_option maxRecDepth 100000
set_option maxHeartbeats 2000000
/-! Runs: a table of kinds takes its rows. -/
namespace Pe
open PySem L2
variable {P : Pg} {n l B : Nat} {S : Sto}
theorem sweep_to {S' T' : Sto} {v : Wv} {k : Nat} (c : Cl T') (hl : T'.length = k) (hk : k ≤ S'.length) (h : ∀ j, j < k → S'[j]? = T'[j]?) (u : under k v = true) : sweep k v S' = T' := by
  have e : S'.take k = T' := by
    refine List.ext_getElem? fun j => ?_
    by_cases hj : j < k
    · rw [List.getElem?_take_of_lt hj, h j hj]
    · rw [List.getElem?_eq_none (by rw [List.length_take]; omega), List.getElem?_eq_none (by omega)]
  unfold sweep
  rw [e]
  have c' : T'.all (Ob.under k) = true := by rw [← hl]; exact c
  rw [if_pos ⟨u, c'⟩]
theorem set_last {T : Sto} {o p : Ob} : (T ++ [o]).set T.length p = T ++ [p] := by
  rw [List.set_append_right _ _ (Nat.le_refl _), Nat.sub_self]
  rfl
theorem get_last {T : Sto} {o : Ob} : (T ++ [o])[T.length]? = some o := by simp
theorem get_old {T E : Sto} {j : Nat} (h : j < T.length) : (T ++ E)[j]? = T[j]? := List.getElem?_append_left h
theorem nodup_sub : ∀ {xs ys : List Str}, xs.Nodup → (∀ x ∈ xs, x ∈ ys) → xs.length ≤ ys.length
  | [], ys, _, _ => Nat.zero_le _
  | x :: xs, ys, nd, h => by
    obtain ⟨h1, h2⟩ := List.nodup_cons.mp nd
    have hx := h x List.mem_cons_self
    have ih := nodup_sub (ys := ys.erase x) h2 fun y hy => by
      have ne : y ≠ x := fun e => h1 (e ▸ hy)
      exact (List.mem_erase_of_ne ne).mpr (h y (List.mem_cons_of_mem _ hy))
    rw [List.length_erase_of_mem hx] at ih
    have : 0 < ys.length := List.length_pos_of_mem hx
    rw [List.length_cons]
    omega
/-- lines of a table: names, each with bases from before -/
structure LinesOk (L : List (Str × List Str)) : Prop where
  nd : (L.map (·.1)).Nodup
  nm : ∀ p ∈ L, Nm p.1
  few : L.length ≤ 7
  bs : ∀ (i : Nat) (p : Str × List Str), L[i]? = some p → (∀ b ∈ p.2, b ∈ (L.take i).map (·.1)) ∧ p.2.Nodup ∧ p.2.length ≤ 2
theorem under_stl {k : Nat} : ∀ ls : List Str, unders k (stl ls) = true
  | [] => rfl
  | x :: ls => by
    show (under k (.str x) && unders k (stl ls)) = true
    rw [under_stl ls]
    rfl
theorem nm_gd {x : Str} (h : Nm x) : gd (.str x) = true := by
  show x.cps.all (· < 0x110000) = true
  rw [Array.all_eq_true_iff_forall_mem]
  intro c hc
  have := h.2.2 c (by simpa using hc)
  exact decide_eq_true (by have := this.2; omega)
/-- what a table needs of the program -/
structure HasK (P : Pg) : Prop where
  f6 : P.fn 6 = some fd_is_name
  f8 : P.fn 8 = some fd_are_bases
  f9 : P.fn 9 = some fd_are_rows
  f10 : P.fn 10 = some fd_Kinds_init
  f11 : P.fn 11 = some fd_Kinds_of
  f12 : P.fn 12 = some fd_Kinds_take_rows
  m3 : P.meth 4 3 = some 12
  i4 : P.init 4 = some 10
  c1 : P.con 4 1 = some (.int 7)
  g18 : P.fld 4 18 = true
  g19 : P.fld 4 19 = true
abbrev kIns (a b : Nat) : Ob := .ins 4 [(18, .ref a), (19, .ref b)]
theorem att18 (H : HasK P) {s a b : Nat} (h : S[s]? = some (kIns a b)) : attW P S (.ref s) 18 = some (.ref a) := by
  unfold attW
  simp only [h]
  show (if P.fld 4 18 = true then some (Wv.ref a) else none) = _
  rw [if_pos H.g18]
theorem att19 (H : HasK P) {s a b : Nat} (h : S[s]? = some (kIns a b)) : attW P S (.ref s) 19 = some (.ref b) := by
  unfold attW
  simp only [h]
  show (if P.fld 4 19 = true then some (Wv.ref b) else none) = _
  rw [if_pos H.g19]
theorem att1 (H : HasK P) {s a b : Nat} (h : S[s]? = some (kIns a b)) : attW P S (.ref s) 1 = some (.int 7) := by
  unfold attW
  simp only [h]
  exact H.c1
theorem sort_str {xs : List Str} (h : xs.length < 64) : sortW (stl xs) = some (stl (sortS xs)) := by
  unfold sortW
  rw [if_pos (by rw [List.length_map]; exact h), strs_stl]
  rfl
structure OvOk (L : List (Str × List Str)) (i : Nat) (ov : List (Key × Wv)) : Prop where
  ks : ov.map (·.1) = ((L.take i).map (·.1)).map Sum.inr
  vs : ∀ p ∈ ov, ∃ ws : List Str, p.2 = .lst (stl ws) ∧ ws.Nodup ∧ ∀ w ∈ ws, w ∈ L.map (·.1)
theorem look_mem : ∀ {ov : List (Key × Wv)} {k : Key}, k ∈ ov.map (·.1) → ∃ v, lookK ov k = some v ∧ (k, v) ∈ ov
  | [], k, h => by simp at h
  | p :: ov, k, h => by
    unfold lookK
    by_cases e : p.1 = k
    · rw [if_pos e]
      exact ⟨p.2, rfl, by rw [← e]; exact List.mem_cons_self⟩
    · rw [if_neg e]
      rw [List.map_cons, List.mem_cons] at h
      obtain ⟨v, h1, h2⟩ := look_mem (h.resolve_left fun z => e z.symm)
      exact ⟨v, h1, List.mem_cons_of_mem _ h2⟩
theorem look_none : ∀ {ov : List (Key × Wv)} {k : Key}, k ∉ ov.map (·.1) → lookK ov k = none
  | [], _, _ => rfl
  | p :: ov, k, h => by
    rw [List.map_cons, List.mem_cons, not_or] at h
    unfold lookK
    rw [if_neg fun z => h.1 z.symm]
    exact look_none h.2
theorem look_iff {ov : List (Key × Wv)} {k : Key} : (lookK ov k).isSome = true ↔ k ∈ ov.map (·.1) := by
  constructor
  · intro h
    apply Classical.byContradiction
    intro z
    rw [look_none z] at h
    cases h
  · intro h
    obtain ⟨v, h1, _⟩ := look_mem h
    rw [h1]
    rfl
theorem stor_new {ov : List (Key × Wv)} {k : Key} {v : Wv} (h : k ∉ ov.map (·.1)) : storK ov k v = ov ++ [(k, v)] := by
  unfold storK
  rw [if_neg]
  intro z
  obtain ⟨p, h1, h2⟩ := List.any_eq_true.mp z
  exact h (List.mem_map.mpr ⟨p, h1, of_decide_eq_true h2⟩)
/-- the kinds of ws that are not in fs -/
theorem ev_more {F : Fo} {r : Ev} {ws fs : List Str} {f : Nat} {it : C} (hit : ev P F it r S = .ok (.lst (stl ws)) S) (h6 : r[6]? = some (.ref f)) (h8 : 8 < r.length) (hf : S[f]? = some (.lst (stl fs))) (hw : ws.length ≤ 1000) :
    ev P F (.lc false [8] (.nm 8) (.any it) [.cmp .notin (.v 8) (.v 6)] (.v 8)) r S = .ok (.lst (stl (ws.filter fun w => !decide (w ∈ fs)))) S := by
  have hi : evI P F (.any it) r S = .ok ⟨stl ws, none⟩ S := by
    rw [evI, hit, R.bind_ok]
    rfl
  have hl : (stl ws).length ≤ line := by rw [List.length_map]; exact Nat.le_trans hw (by decide)
  obtain ⟨ys, S', e, rfl, rfl⟩ := lc_inv (bx := false) (own := [8]) (g := .nm 8) (cond := [.cmp .notin (.v 8) (.v 6)]) (e := .v 8) hi hl (fun i ys S2 => S2 = S ∧ ys = stl ((ws.take i).filter fun w => !decide (w ∈ fs))) ⟨rfl, rfl⟩ (fun _ _ _ _ _ => rfl) (fun i x ys S2 hx hI => by
    obtain ⟨rfl, rfl⟩ := hI
    rw [List.getElem?_map] at hx
    obtain ⟨w, hw', rfl⟩ := Option.map_eq_some_iff.mp hx
    have g8 : getV (r.set 8 (.str w)) 8 S2 = .ok (.str w) S2 := getV_some (by rw [List.getElem?_set_self h8]) (by simp)
    have g6 : getV (r.set 8 (.str w)) 6 S2 = .ok (.ref f) S2 := getV_some (by rw [List.getElem?_set_ne (by decide), h6]) (by simp)
    have ec : ev P F (.cmp .notin (.v 8) (.v 6)) (r.set 8 (.str w)) S2 = .ok (.bl (!decide (w ∈ fs))) S2 := by
      rw [ev, ev, g8, R.bind_ok, ev, g6, R.bind_ok]
      show R.of (((inW S2 (.str w) (.ref f)).map not).map Wv.bl) S2 = _
      rw [in_ref hf]
      rfl
    have et : ws.take (i + 1) = ws.take i ++ [w] := by rw [List.take_add_one, hw']; rfl
    refine ⟨r.set 8 (.str w), S2, by simp [h8], ?_⟩
    by_cases c : w ∈ fs
    · refine .inl ⟨?_, rfl, ?_⟩
      · rw [evAll, ec]
        simp [c]
      · rw [et, List.filter_append]
        simp [c]
    · refine .inr ⟨?_, .str w, S2, by rw [ev, g8], rfl, ?_⟩
      · rw [evAll, ec]
        simp [c]
      · rw [et, List.filter_append]
        simp [c])
  rw [e]
  have e2 : (stl ws).length = ws.length := List.length_map _
  dsimp only
  rw [e2, List.take_length, newL_f]
  rw [List.length_map]
  exact Nat.le_trans (List.length_filter_le _ _) (Nat.le_trans hw (by decide))
end Pe

set_option Elab.async false
set_option linter.all false
set_option maxRecDepth 100000
set_option maxHeartbeats 4000000
/-! Runs: a table of kinds takes its rows. -/
namespace Pe
open PySem L2
variable {P : Pg} {n l B : Nat} {S : Sto}
/-- the bases of a row: what stands under it grows -/
theorem run_found (H : HasK P) {F : Fo} {L : List (Str × List Str)} (hL : LinesOk L) {i : Nat} {x : Str} {bs : List Str} (hp : L[i]? = some (x, bs)) {S2 : Sto} {s a b c : Nat} {u5 : Wv} {u7 : Wv} {ov : List (Key × Wv)} (hs : S2[s]? = some (kIns a b)) (hb : S2[b]? = some (.dic ov)) (ho : OvOk L i ov) :
    ∃ (u : Wv) (fs : List Str), exS P F (.for_ (.nm 7) (.any (.v 4)) [.ex (.mut .extend (.v 6) [.lc false [8] (.nm 8) (.any (.idx (.att (.v 0) 19) (.v 7))) [.cmp .notin (.v 8) (.v 6)] (.v 8)])]) [.ref s, .lst (L.map row), .ref c, .str x, .tup (stl bs), u5, .ref S2.length, u7, .unb] (S2 ++ [.lst (stl [x])]) = .ok (.nx [.ref s, .lst (L.map row), .ref c, .str x, .tup (stl bs), u5, .ref S2.length, u, .unb]) (S2 ++ [.lst (stl fs)]) ∧ fs.Nodup ∧ ∀ w ∈ fs, w ∈ L.map (·.1) := by
  have hxm : x ∈ L.map (·.1) := List.mem_map.mpr ⟨_, List.mem_of_getElem? hp, rfl⟩
  have hi : evI P F (.any (.v 4)) [.ref s, .lst (L.map row), .ref c, .str x, .tup (stl bs), u5, .ref S2.length, u7, .unb] (S2 ++ [.lst (stl [x])]) = .ok ⟨stl bs, none⟩ (S2 ++ [.lst (stl [x])]) := by
    simp [getV, walkOf]
  have hsl : s < S2.length := (List.getElem?_eq_some_iff.mp hs).1
  have hbl : b < S2.length := (List.getElem?_eq_some_iff.mp hb).1
  have l7 : (L.map (·.1)).length ≤ 7 := by rw [List.length_map]; exact hL.few
  obtain ⟨r', S', e, u, fs, rfl, rfl, h1, h2⟩ := for_inv (g := .nm 7) (b := [.ex (.mut .extend (.v 6) [.lc false [8] (.nm 8) (.any (.idx (.att (.v 0) 19) (.v 7))) [.cmp .notin (.v 8) (.v 6)] (.v 8)])]) hi
    (fun k r S3 => ∃ u fs, r = [.ref s, .lst (L.map row), .ref c, .str x, .tup (stl bs), u5, .ref S2.length, u, .unb] ∧ S3 = S2 ++ [.lst (stl fs)] ∧ fs.Nodup ∧ ∀ w ∈ fs, w ∈ L.map (·.1))
    ⟨u7, [x], rfl, rfl, by simp, fun w hw => by rw [List.mem_singleton.mp hw]; exact hxm⟩ (fun _ _ _ _ _ => rfl) (fun k y r S3 hy hI => by
      obtain ⟨u, fs, rfl, rfl, h1, h2⟩ := hI
      rw [List.getElem?_map] at hy
      obtain ⟨bb, hbb, rfl⟩ := Option.map_eq_some_iff.mp hy
      have hbi : bb ∈ bs := List.mem_of_getElem? hbb
      have hk : (Sum.inr bb : Key) ∈ ov.map (·.1) := by
        rw [ho.ks]
        exact List.mem_map.mpr ⟨bb, (hL.bs i _ hp).1 bb hbi, rfl⟩
      obtain ⟨v, e1, e2⟩ := look_mem hk
      obtain ⟨ws, rfl, h3, h4⟩ := ho.vs _ e2
      have lw : ws.length ≤ 7 := Nat.le_trans (nodup_sub h3 h4) l7
      have g1 : (S2 ++ [Ob.lst (stl fs)])[s]? = some (kIns a b) := by rw [get_old hsl, hs]
      have g2 : (S2 ++ [Ob.lst (stl fs)])[b]? = some (.dic ov) := by rw [get_old hbl, hb]
      have hit : ev P F (.idx (.att (.v 0) 19) (.v 7)) [.ref s, .lst (L.map row), .ref c, .str x, .tup (stl bs), u5, .ref S2.length, .str bb, .unb] (S2 ++ [.lst (stl fs)]) = .ok (.lst (stl ws)) (S2 ++ [.lst (stl fs)]) := by
        have ei : idxW (S2 ++ [Ob.lst (stl fs)]) (.ref b) (.str bb) = some (.lst (stl ws)) := by
          unfold idxW
          simp only [view, g2]
          exact e1
        rw [ev, ev, ev, getV_some rfl (by simp), R.bind_ok, att19 H g1, R.of_some, R.bind_ok, ev, getV_some rfl (by simp), R.bind_ok, ei]
        rfl
      have em := ev_more (P := P) (F := F) (S := S2 ++ [.lst (stl fs)]) (r := [.ref s, .lst (L.map row), .ref c, .str x, .tup (stl bs), u5, .ref S2.length, .str bb, .unb]) (ws := ws) (fs := fs) (f := S2.length) hit rfl (by simp) get_last (by omega)
      have nd : (fs ++ ws.filter fun w => !decide (w ∈ fs)).Nodup := by
        refine List.nodup_append.mpr ⟨h1, List.Pairwise.filter _ h3, fun p hp q hq e => ?_⟩
        have := (List.mem_filter.mp hq).2
        rw [← e] at this
        simp [hp] at this
      have sb : ∀ w ∈ fs ++ ws.filter fun w => !decide (w ∈ fs), w ∈ L.map (·.1) := fun w hw => by
        rcases List.mem_append.mp hw with hw | hw
        · exact h2 w hw
        · exact h4 w (List.mem_filter.mp hw).1
      refine ⟨[.ref s, .lst (L.map row), .ref c, .str x, .tup (stl bs), u5, .ref S2.length, .str bb, .unb], [.ref s, .lst (L.map row), .ref c, .str x, .tup (stl bs), u5, .ref S2.length, .str bb, .unb], _, rfl, ?_, .str bb, _, rfl, rfl, nd, sb⟩
      have hb6 : isBx (S2 ++ [Ob.lst (stl fs)]) (.ref S2.length) = true := by
        unfold isBx
        simp only [get_last]
      have hz : (stl fs).length + (stl (ws.filter fun w => !decide (w ∈ fs))).length ≤ line := by
        have := Nat.le_trans (nodup_sub nd sb) l7
        rw [List.length_append] at this
        rw [List.length_map, List.length_map]
        exact Nat.le_trans this (by decide)
      have hm : mut1 .extend (S2 ++ [Ob.lst (stl fs)]) (.ref S2.length) [.lst (stl (ws.filter fun w => !decide (w ∈ fs)))] = .ok .non (S2 ++ [.lst (stl (fs ++ ws.filter fun w => !decide (w ∈ fs)))]) := by
        unfold mut1
        simp only [get_last]
        rw [if_pos hz, set_last, ← List.map_append]
      rw [exB, exS, ev, ev, getV_some rfl (by simp), R.bind_ok, if_pos hb6, evs, em, R.bind_ok, evs, R.bind_ok, R.bind_ok, hm]
      rfl)
  exact ⟨u, fs, e, h1, h2⟩
/-- what a row leaves -/
structure Mid (L : List (Str × List Str)) (T : Sto) (a b c i : Nat) (S2 : Sto) : Prop where
  len : T.length + 1 ≤ S2.length
  nms : S2[c]? = some (.lst (stl (L.map (·.1))))
  old : ∀ j, j < T.length → j ≠ a → j ≠ b → S2[j]? = T[j]?
  ob : ∃ kn ov, S2[a]? = some (.lst kn) ∧ S2[b]? = some (.dic ov) ∧ kn.length = i ∧ unders 0 kn = true ∧ OvOk L i ov
theorem set_twice_get {S : Sto} {j : Nat} {o : Ob} (h : j < S.length) : (S.set j o)[j]? = some o := List.getElem?_set_self h
/-- one row -/
theorem run_row (H : HasK P) {k : Nat} {L : List (Str × List Str)} (hL : LinesOk L) {i : Nat} {x : Str} {bs : List Str} (hp : L[i]? = some (x, bs)) {T S2 : Sto} {s a b c : Nat} (hs : T[s]? = some (kIns a b)) (ab : a ≠ b) (sa : s ≠ a) (sb : s ≠ b) (ha : a < T.length) (hb : b < T.length) (hc : c = T.length) (M : Mid L T a b c i S2) {u6 u7 : Wv} :
    ∃ (v6 v7 : Wv) (S3 : Sto), exB P (callN P (k + 1)) [.ite (.not (.fn 8 [.v 4, .slc (.v 2) none (some (.v 5))])) [.never] [], .ex (.mut .append (.att (.v 0) 18) [.tup [.v 3, .srt false (.v 4)]]), .asg (.nm 6) (.dsp true [.v 3]), .for_ (.nm 7) (.any (.v 4)) [.ex (.mut .extend (.v 6) [.lc false [8] (.nm 8) (.any (.idx (.att (.v 0) 19) (.v 7))) [.cmp .notin (.v 8) (.v 6)] (.v 8)])], .seti (.att (.v 0) 19) (.v 3) (.srt false (.v 6))]
      [.ref s, .lst (L.map row), .ref c, .str x, .tup (stl bs), .int i, u6, u7, .unb] S2 = .ok (.nx [.ref s, .lst (L.map row), .ref c, .str x, .tup (stl bs), .int i, v6, v7, .unb]) S3 ∧ Mid L T a b c (i + 1) S3 := by
  obtain ⟨kn, ov, ha2, hb2, hkn, ukn, ho⟩ := M.ob
  have hsT : s < T.length := (List.getElem?_eq_some_iff.mp hs).1
  have hil : i < L.length := (List.getElem?_eq_some_iff.mp hp).1
  have l7 := hL.few
  obtain ⟨hbs, ndb, lb2⟩ := hL.bs i _ hp
  have hs2 : S2[s]? = some (kIns a b) := by rw [M.old s hsT sa sb, hs]
  have len := M.len
  -- the bases are checked
  have e1 : exS P (callN P (k + 1)) (.ite (.not (.fn 8 [.v 4, .slc (.v 2) none (some (.v 5))])) [.never] []) [.ref s, .lst (L.map row), .ref c, .str x, .tup (stl bs), .int i, u6, u7, .unb] S2 = .ok (.nx [.ref s, .lst (L.map row), .ref c, .str x, .tup (stl bs), .int i, u6, u7, .unb]) S2 := by
    have sl : slcW S2 (.ref c) none (some (i : Int)) = some (.lst (stl ((L.take i).map (·.1)))) := by
      unfold slcW
      simp only [view, M.nms]
      unfold cutW
      rw [HT.sIx_none, HT.sIx_nat, List.length_map, List.length_map, Nat.min_eq_left (by omega), Nat.sub_zero, List.drop_zero, ← List.map_take, ← List.map_take]
    have rb := run_bases (P := P) (n := k) (S := S2) H.f8 (bs := bs) (ls := (L.take i).map (·.1)) hbs ndb (by have := lb2; dsimp only at this; omega)
    generalize (L.take i).map (·.1) = bf at sl rb
    simp [getV, sl, rb]
  -- known grows
  have e2 : exS P (callN P (k + 1)) (.ex (.mut .append (.att (.v 0) 18) [.tup [.v 3, .srt false (.v 4)]])) [.ref s, .lst (L.map row), .ref c, .str x, .tup (stl bs), .int i, u6, u7, .unb] S2 = .ok (.nx [.ref s, .lst (L.map row), .ref c, .str x, .tup (stl bs), .int i, u6, u7, .unb]) (S2.set a (.lst (kn ++ [.tup [.str x, .lst (stl (sortS bs))]]))) := by
    have ia : isBx S2 (.ref a) = true := by
      unfold isBx
      simp only [ha2]
    have so : (itemsOf S2 (.tup (stl bs))).bind sortW = some (stl (sortS bs)) := by
      show sortW (stl bs) = _
      exact sort_str (by have := lb2; dsimp only at this; omega)
    have lz : (stl (sortS bs)).length ≤ line := by
      rw [List.length_map, (sortS_perm bs).length_eq]
      exact Nat.le_trans lb2 (by decide)
    have m1 : mut1 .append S2 (.ref a) [.tup [.str x, .lst (stl (sortS bs))]] = .ok .non (S2.set a (.lst (kn ++ [.tup [.str x, .lst (stl (sortS bs))]]))) := by
      unfold mut1
      simp only [ha2]
      rw [if_pos (by rw [hkn]; exact Nat.lt_of_lt_of_le hil (Nat.le_trans l7 (by decide)))]
    have et : ev P (callN P (k + 1)) (.tup [.v 3, .srt false (.v 4)]) [.ref s, .lst (L.map row), .ref c, .str x, .tup (stl bs), .int i, u6, u7, .unb] S2 = .ok (.tup [.str x, .lst (stl (sortS bs))]) S2 := by
      simp [getV, so, newL_f lz, show 2 ≤ line by decide]
    rw [exS, ev, ev, ev, getV_some rfl (by simp), R.bind_ok, att18 H hs2, R.of_some, R.bind_ok, if_pos ia, evs, et, R.bind_ok, evs, R.bind_ok, R.bind_ok, m1]
    rfl
  have lS : (S2.set a (.lst (kn ++ [.tup [.str x, .lst (stl (sortS bs))]]))).length = S2.length := List.length_set
  have e3 : exS P (callN P (k + 1)) (.asg (.nm 6) (.dsp true [.v 3])) [.ref s, .lst (L.map row), .ref c, .str x, .tup (stl bs), .int i, u6, u7, .unb] (S2.set a (.lst (kn ++ [.tup [.str x, .lst (stl (sortS bs))]]))) = .ok (.nx [.ref s, .lst (L.map row), .ref c, .str x, .tup (stl bs), .int i, .ref S2.length, u7, .unb]) (S2.set a (.lst (kn ++ [.tup [.str x, .lst (stl (sortS bs))]])) ++ [.lst (stl [x])]) := by
    simp [getV, newL, show 1 ≤ line by decide]
  have hs3 : (S2.set a (.lst (kn ++ [.tup [.str x, .lst (stl (sortS bs))]])))[s]? = some (kIns a b) := by rw [List.getElem?_set_ne (Ne.symm sa), hs2]
  have hb3 : (S2.set a (.lst (kn ++ [.tup [.str x, .lst (stl (sortS bs))]])))[b]? = some (.dic ov) := by rw [List.getElem?_set_ne ab, hb2]
  obtain ⟨u, fs, e4, nf, sf⟩ := run_found (F := callN P (k + 1)) H hL hp (c := c) (u5 := .int i) (u7 := u7) hs3 hb3 ho
  rw [lS] at e4
  -- over grows
  have l7' : (L.map (·.1)).length ≤ 7 := by rw [List.length_map]; exact l7
  have lf := Nat.le_trans (nodup_sub nf sf) l7'
  have nk : (Sum.inr x : Key) ∉ ov.map (·.1) := by
    rw [ho.ks]
    intro z
    obtain ⟨y, hy, e⟩ := List.mem_map.mp z
    cases e
    have nd := hL.nd
    have : (L.map (·.1))[i]? = some x := by rw [List.getElem?_map, hp]; rfl
    rw [← List.take_append_drop i (L.map (·.1))] at nd
    obtain ⟨_, _, h3⟩ := List.nodup_append.mp nd
    refine h3 x (by rw [← List.map_take]; exact hy) x ?_ rfl
    rw [List.drop_eq_getElem_cons (by rw [List.length_map]; exact hil)]
    have e2 := (List.getElem?_eq_some_iff.mp this).2
    rw [← e2]
    exact List.mem_cons_self
  let S4 := S2.set a (.lst (kn ++ [.tup [.str x, .lst (stl (sortS bs))]])) ++ [Ob.lst (stl fs)]
  have hb4 : S4[b]? = some (.dic ov) := by
    show (_ ++ _)[b]? = _
    rw [get_old (by rw [lS]; omega), hb3]
  have hs4 : S4[s]? = some (kIns a b) := by
    show (_ ++ _)[s]? = _
    rw [get_old (by rw [lS]; omega), hs3]
  have hf4 : S4[S2.length]? = some (.lst (stl fs)) := by
    have := get_last (T := S2.set a (.lst (kn ++ [.tup [.str x, .lst (stl (sortS bs))]]))) (o := .lst (stl fs))
    rw [lS] at this
    exact this
  have lo : ov.length = i := by
    have := congrArg List.length ho.ks
    rw [List.length_map, List.length_map, List.length_map, List.length_take] at this
    omega
  have e5 : exS P (callN P (k + 1)) (.seti (.att (.v 0) 19) (.v 3) (.srt false (.v 6))) [.ref s, .lst (L.map row), .ref c, .str x, .tup (stl bs), .int i, .ref S2.length, u, .unb] S4 = .ok (.nx [.ref s, .lst (L.map row), .ref c, .str x, .tup (stl bs), .int i, .ref S2.length, u, .unb]) (S4.set b (.dic (ov ++ [(.inr x, .lst (stl (sortS fs)))]))) := by
    have so : (itemsOf S4 (.ref S2.length)).bind sortW = some (stl (sortS fs)) := by
      have : itemsOf S4 (.ref S2.length) = some (stl fs) := by
        unfold itemsOf
        simp only [view, hf4]
      rw [this, Option.bind_some]
      exact sort_str (by omega)
    have lz : (stl (sortS fs)).length ≤ line := by
      rw [List.length_map, (sortS_perm fs).length_eq]
      exact Nat.le_trans lf (by decide)
    have es : ev P (callN P (k + 1)) (.srt false (.v 6)) [.ref s, .lst (L.map row), .ref c, .str x, .tup (stl bs), .int i, .ref S2.length, u, .unb] S4 = .ok (.lst (stl (sortS fs))) S4 := by
      rw [ev, ev, getV_some rfl (by simp), R.bind_ok, so, R.of_some, R.bind_ok, newL_f lz]
    have st : setI S4 (.ref b) (.str x) (.lst (stl (sortS fs))) = some (S4.set b (.dic (ov ++ [(.inr x, .lst (stl (sortS fs)))]))) := by
      unfold setI
      simp only [hb4]
      show (if ov.length < line then some (S4.set b (.dic (storK ov (.inr x) _))) else none) = _
      rw [if_pos (by rw [lo]; exact Nat.lt_of_lt_of_le hil (Nat.le_trans l7 (by decide))), stor_new nk]
    rw [exS, es, R.bind_ok, ev, ev, getV_some rfl (by simp), R.bind_ok, att19 H hs4, R.of_some, R.bind_ok, ev, getV_some rfl (by simp), R.bind_ok, st]
  refine ⟨.ref S2.length, u, S4.set b (.dic (ov ++ [(.inr x, .lst (stl (sortS fs)))])), ?_, ?_⟩
  · rw [exB_go e1, exB_go e2, exB_go e3, exB_go e4, exB_go e5]
    rfl
  · have l4 : S4.length = S2.length + 1 := by
      show List.length (_ ++ _) = _
      rw [List.length_append, lS]
      rfl
    have low : ∀ j, j < S2.length → j ≠ a → j ≠ b → (S4.set b (.dic (ov ++ [(.inr x, .lst (stl (sortS fs)))])))[j]? = S2[j]? := fun j hj ja jb => by
      rw [List.getElem?_set_ne (Ne.symm jb)]
      show (_ ++ _)[j]? = _
      rw [get_old (by rw [lS]; exact hj), List.getElem?_set_ne (Ne.symm ja)]
    refine ⟨by rw [List.length_set, l4]; omega, ?_, fun j hj ja jb => ?_, kn ++ [.tup [.str x, .lst (stl (sortS bs))]], ov ++ [(.inr x, .lst (stl (sortS fs)))], ?_, ?_, ?_, ?_, ?_⟩
    · rw [low c (by omega) (by omega) (by omega)]
      exact M.nms
    · rw [low j (by omega) ja jb]
      exact M.old j hj ja jb
    · rw [List.getElem?_set_ne (Ne.symm ab)]
      show (_ ++ _)[a]? = _
      rw [get_old (by rw [lS]; omega), List.getElem?_set_self (by omega)]
    · exact List.getElem?_set_self (by rw [l4]; omega)
    · rw [List.length_append, hkn]
      rfl
    · have : ∀ xs ys : List Wv, unders 0 xs = true → unders 0 ys = true → unders 0 (xs ++ ys) = true := fun xs ys h1 h2 => by
        induction xs with
        | nil => exact h2
        | cons z zs ih =>
          simp only [List.cons_append, unders, Bool.and_eq_true] at h1 ⊢
          exact ⟨h1.1, ih h1.2⟩
      refine this _ _ ukn ?_
      simp only [unders, under, under_stl, Bool.and_true]
    · have tk : L.take (i + 1) = L.take i ++ [(x, bs)] := by rw [List.take_add_one, hp]; rfl
      refine ⟨?_, fun p hp => ?_⟩
      · rw [tk, List.map_append, List.map_append, List.map_append, ho.ks]
        rfl
      · rcases List.mem_append.mp hp with hp | hp
        · exact ho.vs p hp
        · rw [List.mem_singleton.mp hp]
          exact ⟨sortS fs, rfl, (sortS_perm fs).nodup_iff.mpr nf, fun w hw => sf w ((sortS_perm fs).mem_iff.mp hw)⟩
end Pe

set_option Elab.async false
set_option linter.all false
set_option maxRecDepth 100000
set_option maxHeartbeats 4000000
/-! Runs: a table of kinds is made. -/
namespace Pe
open PySem L2
variable {P : Pg} {n l B : Nat} {S : Sto}
mutual
theorem under_mono {m n : Nat} (h : m ≤ n) : ∀ w : Wv, under m w = true → under n w = true
  | .ref l, e => by
    have : l < m := by simpa [under] using e
    simp [under]
    omega
  | .tup xs, e => by
    simp only [under] at e ⊢
    exact unders_mono h xs e
  | .lst xs, e => by
    simp only [under] at e ⊢
    exact unders_mono h xs e
  | .scr xs, e => by
    simp only [under] at e ⊢
    exact unders_mono h xs e
  | .unb, _ => rfl
  | .non, _ => rfl
  | .bl _, _ => rfl
  | .int _, _ => rfl
  | .str _, _ => rfl
  | .cls _, _ => rfl
theorem unders_mono {m n : Nat} (h : m ≤ n) : ∀ ws : List Wv, unders m ws = true → unders n ws = true
  | [], _ => rfl
  | x :: xs, e => by
    simp only [unders, Bool.and_eq_true] at e ⊢
    exact ⟨under_mono h x e.1, unders_mono h xs e.2⟩
end
theorem ob_mono {m n : Nat} (h : m ≤ n) (o : Ob) (u : o.under m = true) : o.under n = true := by
  cases o with
  | lst xs => exact unders_mono h xs u
  | dic kvs =>
    simp only [Ob.under, List.all_eq_true] at u ⊢
    exact fun p hp => under_mono h _ (u p hp)
  | ins c fs =>
    simp only [Ob.under, List.all_eq_true] at u ⊢
    exact fun p hp => under_mono h _ (u p hp)
  | dead => rfl
theorem Cl.push {S : Sto} (h : Cl S) {o : Ob} (u : o.under (S.length + 1) = true) : Cl (S ++ [o]) := by
  rw [cl_iff] at h ⊢
  intro j p e
  rw [List.length_append, List.length_singleton]
  by_cases z : j < S.length
  · rw [get_old z] at e
    exact ob_mono (Nat.le_succ _) p (h j p e)
  · have hl := (List.getElem?_eq_some_iff.mp e).1
    rw [List.length_append, List.length_singleton] at hl
    have : j = S.length := by omega
    subst this
    rw [get_last] at e
    cases e
    exact u
theorem ov_under {k i : Nat} {L : List (Str × List Str)} {ov : List (Key × Wv)} (h : OvOk L i ov) : (Ob.dic ov).under k = true := by
  simp only [Ob.under, List.all_eq_true]
  intro p hp
  obtain ⟨ws, e, _⟩ := h.vs p hp
  rw [e]
  show unders k (stl ws) = true
  exact under_stl ws
theorem run_take (H : HasK P) {k : Nat} {L : List (Str × List Str)} (hL : LinesOk L) {T : Sto} {s a b : Nat} (hs : T[s]? = some (kIns a b)) (ab : a ≠ b) (sa : s ≠ a) (sb : s ≠ b) (ha : T[a]? = some (.lst [])) (hb : T[b]? = some (.dic [])) (cl : Cl T) :
    ∃ (kn : List Wv) (ov : List (Key × Wv)), callN P (k + 2) 12 [.ref s, .lst (L.map row)] T = .ok .non ((T.set a (.lst kn)).set b (.dic ov)) ∧ kn.length = L.length ∧ unders 0 kn = true ∧ OvOk L L.length ov := by
  have hal := (List.getElem?_eq_some_iff.mp ha).1
  have hbl := (List.getElem?_eq_some_iff.mp hb).1
  have hsl := (List.getElem?_eq_some_iff.mp hs).1
  have l7 := hL.few
  rw [call_eq H.f12 rfl rfl (by decide)]
  have e1 : exS P (callN P (k + 1)) (.ite (.cmp .gt (.p1 .len (.v 1)) (.att (.v 0) 1)) [.never] []) [.ref s, .lst (L.map row), .unb, .unb, .unb, .unb, .unb, .unb, .unb] T = .ok (.nx [.ref s, .lst (L.map row), .unb, .unb, .unb, .unb, .unb, .unb, .unb]) T := by
    have h7 : ¬ (7 : Int) < (L.length : Int) := by omega
    simp [getV, pr1, att1 H hs, h7]
  have e2 : exS P (callN P (k + 1)) (.asg (.nm 2) (.dsp true [])) [.ref s, .lst (L.map row), .unb, .unb, .unb, .unb, .unb, .unb, .unb] T = .ok (.nx [.ref s, .lst (L.map row), .ref T.length, .unb, .unb, .unb, .unb, .unb, .unb]) (T ++ [.lst []]) := by
    simp [newL, show 0 ≤ line by decide]
  have hi : evI P (callN P (k + 1)) (.any (.v 1)) [.ref s, .lst (L.map row), .ref T.length, .unb, .unb, .unb, .unb, .unb, .unb] (T ++ [.lst []]) = .ok ⟨L.map row, none⟩ (T ++ [.lst []]) := by
    simp [getV, walkOf]
  obtain ⟨r3, S3, e3, u3, u4, rfl, rfl⟩ := for_inv (g := .tp [.nm 3, .nm 4]) (b := [.ite (.or [.not (.fn 6 [.v 3]), .cmp .isin (.v 3) (.v 2)]) [.never] [], .ex (.mut .append (.v 2) [.v 3])]) hi
    (fun i r S2 => ∃ u3 u4, r = [.ref s, .lst (L.map row), .ref T.length, u3, u4, .unb, .unb, .unb, .unb] ∧ S2 = T ++ [.lst (stl ((L.take i).map (·.1)))]) ⟨_, _, rfl, rfl⟩ (fun _ _ _ _ _ => rfl) (fun i y r S2 hy hI => by
      obtain ⟨u3, u4, rfl, rfl⟩ := hI
      rw [List.getElem?_map] at hy
      obtain ⟨⟨x, bs⟩, hp, rfl⟩ := Option.map_eq_some_iff.mp hy
      have hil := (List.getElem?_eq_some_iff.mp hp).1
      have nx := hL.nm _ (List.mem_of_getElem? hp)
      have isn := run_isname (P := P) (n := k) (S := T ++ [.lst (stl ((L.take i).map (·.1)))]) H.f6 (nm_gd nx) (show x.length ≤ 200000 from Nat.le_trans nx.2.1 (by decide))
      have yes : isN (.str x) = true := nmB_iff.mpr nx
      rw [yes] at isn
      have nin : ¬ x ∈ (L.take i).map (·.1) := fun z => by
        have nd := hL.nd
        have hx : (L.map (·.1))[i]? = some x := by rw [List.getElem?_map, hp]; rfl
        rw [← List.take_append_drop i (L.map (·.1))] at nd
        obtain ⟨_, _, h3⟩ := List.nodup_append.mp nd
        refine h3 x (by rw [← List.map_take]; exact z) x ?_ rfl
        rw [List.drop_eq_getElem_cons (by rw [List.length_map]; exact hil), ← (List.getElem?_eq_some_iff.mp hx).2]
        exact List.mem_cons_self
      have inn := in_ref (S := T ++ [.lst (stl ((L.take i).map (·.1)))]) (x := x) (a := T.length) get_last
      have bx : isBx (T ++ [.lst (stl ((L.take i).map (·.1)))]) (.ref T.length) = true := by
        unfold isBx
        simp only [get_last]
      have tk : L.take (i + 1) = L.take i ++ [(x, bs)] := by rw [List.take_add_one, hp]; rfl
      have mu : mut1 .append (T ++ [Ob.lst (stl ((L.take i).map (·.1)))]) (.ref T.length) [.str x] = .ok .non (T ++ [.lst (stl ((L.take (i + 1)).map (·.1)))]) := by
        unfold mut1
        simp only [get_last]
        rw [if_pos (by rw [List.length_map, List.length_map, List.length_take]; exact Nat.lt_of_le_of_lt (Nat.min_le_left _ _) (Nat.lt_of_lt_of_le hil (Nat.le_trans l7 (by decide)))), set_last, tk, List.map_append]
        show _ = R.ok Wv.non (T ++ [Ob.lst (List.map Wv.str (_ ++ _))])
        rw [List.map_append]
        rfl
      refine ⟨[.ref s, .lst (L.map row), .ref T.length, .str x, .tup (stl bs), .unb, .unb, .unb, .unb], [.ref s, .lst (L.map row), .ref T.length, .str x, .tup (stl bs), .unb, .unb, .unb, .unb], T ++ [.lst (stl ((L.take (i + 1)).map (·.1)))], rfl, ?_, _, _, rfl, rfl⟩
      generalize (L.take (i + 1)).map (·.1) = bf1 at mu
      generalize (L.take i).map (·.1) = bf at isn inn bx mu nin
      simp [getV, isn, cmpW, inn, nin, bx, mu])
  have hm : (L.map row).length = L.length := List.length_map _
  have M0 : Mid L T a b T.length 0 (T ++ [.lst (stl ((L.take (L.map row).length).map (·.1)))]) := by
    refine ⟨by simp, ?_, fun j hj _ _ => get_old hj, [], [], ?_, ?_, rfl, rfl, ⟨rfl, fun p hp => by simp at hp⟩⟩
    · rw [get_last, hm, List.take_length]
    · rw [get_old hal, ha]
    · rw [get_old hbl, hb]
  have hi2 : evI P (callN P (k + 1)) (.enm (.v 1)) [.ref s, .lst (L.map row), .ref T.length, u3, u4, .unb, .unb, .unb, .unb] (T ++ [.lst (stl ((L.take (L.map row).length).map (·.1)))]) = .ok ⟨enumW 0 (L.map row), none⟩ (T ++ [.lst (stl ((L.take (L.map row).length).map (·.1)))]) := by
    rw [evI, ev, getV_some rfl (by simp), R.bind_ok]
    rfl
  obtain ⟨r4, S4, e4, M4, v3, v4, v5, v6, v7, rfl⟩ := for_inv (g := .tp [.nm 5, .tp [.nm 3, .nm 4]]) (b := [.ite (.not (.fn 8 [.v 4, .slc (.v 2) none (some (.v 5))])) [.never] [], .ex (.mut .append (.att (.v 0) 18) [.tup [.v 3, .srt false (.v 4)]]), .asg (.nm 6) (.dsp true [.v 3]), .for_ (.nm 7) (.any (.v 4)) [.ex (.mut .extend (.v 6) [.lc false [8] (.nm 8) (.any (.idx (.att (.v 0) 19) (.v 7))) [.cmp .notin (.v 8) (.v 6)] (.v 8)])], .seti (.att (.v 0) 19) (.v 3) (.srt false (.v 6))]) hi2
    (fun i r S2 => Mid L T a b T.length i S2 ∧ ∃ v3 v4 v5 v6 v7, r = [.ref s, .lst (L.map row), .ref T.length, v3, v4, v5, v6, v7, .unb]) ⟨M0, _, _, _, _, _, rfl⟩ (fun _ _ _ _ _ => rfl) (fun i y r S2 hy hI => by
      obtain ⟨M, v3, v4, v5, v6, v7, rfl⟩ := hI
      obtain ⟨z, hz, rfl⟩ := enum_get 0 _ _ _ hy
      rw [List.getElem?_map] at hz
      obtain ⟨⟨x, bs⟩, hp, rfl⟩ := Option.map_eq_some_iff.mp hz
      obtain ⟨w6, w7, S3, e, M'⟩ := run_row (u6 := v6) (u7 := v7) (k := k) H hL hp hs ab sa sb hal hbl rfl M
      exact ⟨[.ref s, .lst (L.map row), .ref T.length, .str x, .tup (stl bs), .int i, v6, v7, .unb], _, S3, by simp, e, M', _, _, _, _, _, rfl⟩)
  rw [enum_len, hm] at M4
  obtain ⟨kn, ov, h1, h2, h3, h4, h5⟩ := M4.ob
  refine ⟨kn, ov, ?_, h3, h4, h5⟩
  show (exB P (callN P (k + 1)) [_, _, _, _] [.ref s, .lst (L.map row), .unb, .unb, .unb, .unb, .unb, .unb, .unb] T).bind _ = _
  rw [exB_go e1, exB_go e2, exB_go e3, exB_go e4, exB, R.bind_ok]
  show R.ok Wv.non (sweep T.length .non S4) = _
  have c1 : Cl (T.set a (.lst kn)) := cl.set (unders_mono (Nat.zero_le _) kn h4)
  have c2 : Cl ((T.set a (.lst kn)).set b (.dic ov)) := c1.set (ov_under h5)
  rw [sweep_to c2 (by simp) (by have := M4.len; omega) (fun j hj => ?_) rfl]
  by_cases jb : j = b
  · subst jb
    rw [h2, List.getElem?_set_self (by simpa using hbl)]
  · rw [List.getElem?_set_ne (Ne.symm jb)]
    by_cases ja : j = a
    · subst ja
      rw [h1, List.getElem?_set_self hal]
    · rw [List.getElem?_set_ne (Ne.symm ja)]
      exact M4.old j hj ja jb
end Pe

set_option Elab.async false
set_option linter.all false
set_option maxRecDepth 100000
set_option maxHeartbeats 4000000
/-! Runs: Kinds(), Kinds.of(rows). -/
namespace Pe
open PySem L2
variable {P : Pg} {n l B : Nat} {S : Sto}
theorem get_at {S E : Sto} (i : Nat) : (S ++ E)[S.length + i]? = E[i]? := by
  rw [List.getElem?_append_right (by omega)]
  congr 1
  omega
theorem set_at {S E : Sto} (i : Nat) {o : Ob} : (S ++ E).set (S.length + i) o = S ++ E.set i o := by
  rw [List.set_append_right _ _ (by omega)]
  congr 2
  omega
theorem get_at0 {S E : Sto} : (S ++ E)[S.length]? = E[0]? := get_at 0
theorem set_at0 {S E : Sto} {o : Ob} : (S ++ E).set S.length o = S ++ E.set 0 o := set_at 0
abbrev kObs (s : Nat) (kn : List Wv) (ov : List (Key × Wv)) : Sto := [kIns (s + 2) (s + 3), .dic [], .lst kn, .dic ov]
theorem kObs_cl {S : Sto} (h : Cl S) {kn : List Wv} {ov : List (Key × Wv)} (hk : unders 0 kn = true) (ho : ∀ k, (Ob.dic ov).under k = true) : Cl (S ++ kObs S.length kn ov) := by
  rw [cl_iff] at h ⊢
  intro j p e
  have hl : (S ++ kObs S.length kn ov).length = S.length + 4 := by simp
  rw [hl]
  by_cases z : j < S.length
  · rw [get_old z] at e
    exact ob_mono (by omega) p (h j p e)
  · obtain ⟨i, rfl⟩ : ∃ i, j = S.length + i := ⟨j - S.length, by omega⟩
    rw [get_at] at e
    match i, e with
    | 0, e => cases e; simp [Ob.under, under]
    | 1, e => cases e; simp [Ob.under]
    | 2, e => cases e; exact unders_mono (Nat.zero_le _) kn hk
    | 3, e => cases e; exact ho _
    | i + 4, e => simp at e
theorem run_init (H : HasK P) {k : Nat} (cl : Cl S) : callN P (k + 3) 10 [.ref S.length] (S ++ [.ins 4 []]) = .ok .non (S ++ kObs S.length [] []) := by
  rw [call_kw H.f10 rfl rfl (by decide)]
  have e0 : LinesOk [] := ⟨by simp, by simp, by simp, by simp⟩
  have l1 : (S ++ [Ob.ins 4 []]).length = S.length + 1 := by simp
  have s1 : ∀ (E : Sto) (v : Wv), E[0]? = some (.ins 4 []) → setA P (S ++ E) (.ref S.length) 18 v = some (S ++ E.set 0 (.ins 4 [(18, v)])) := fun E v h => by
    unfold setA
    simp only [get_at0, h]
    rw [if_pos ⟨by decide, H.g18⟩, set_at0]
    rfl
  have s2 : ∀ (E : Sto) (u v : Wv), E[0]? = some (.ins 4 [(18, u)]) → setA P (S ++ E) (.ref S.length) 19 v = some (S ++ E.set 0 (.ins 4 [(18, u), (19, v)])) := fun E u v h => by
    unfold setA
    simp only [get_at0, h]
    rw [if_pos ⟨by simp, H.g19⟩, set_at0]
    rfl
  have c : Cl (S ++ kObs S.length [] []) := kObs_cl cl rfl (fun _ => rfl)
  obtain ⟨kn, ov, e, h1, h2, h3⟩ := run_take H (k := k) e0 (T := S ++ kObs S.length [] []) (s := S.length) (a := S.length + 2) (b := S.length + 3) get_at0 (by omega) (by omega) (by omega) (get_at 2) (get_at 3) c
  have hk : kn = [] := List.eq_nil_of_length_eq_zero h1
  have ho : ov = [] := by
    have := h3.ks
    simpa using this
  subst hk ho
  rw [set_at, set_at] at e
  have mm : methOf P (S ++ kObs S.length [] []) (.ref S.length) 3 = some 12 := by
    unfold methOf
    simp only [get_at0]
    exact H.m3
  have a1 : exS P (callN P (k + 2)) (.seta (.v 0) 18 (.dsp true [])) [.ref S.length, .ref (S.length + 1)] (S ++ [.ins 4 [], .dic []]) = .ok (.nx [.ref S.length, .ref (S.length + 1)]) (S ++ [.ins 4 [(18, .ref (S.length + 2))], .dic [], .lst []]) := by
    have := s1 [.ins 4 [], .dic [], .lst []] (.ref (S.length + 2)) rfl
    simp [getV, newL, show 0 ≤ line by decide]
    rw [this]
    rfl
  have a2 : exS P (callN P (k + 2)) (.seta (.v 0) 19 .dnew) [.ref S.length, .ref (S.length + 1)] (S ++ [.ins 4 [(18, .ref (S.length + 2))], .dic [], .lst []]) = .ok (.nx [.ref S.length, .ref (S.length + 1)]) (S ++ kObs S.length [] []) := by
    have := s2 [.ins 4 [(18, .ref (S.length + 2))], .dic [], .lst [], .dic []] (.ref (S.length + 2)) (.ref (S.length + 3)) rfl
    simp [getV]
    rw [this]
    rfl
  have g1 : (S ++ kObs S.length [] [])[S.length + 1]? = some (.dic []) := get_at 1
  have a3 : exS P (callN P (k + 2)) (.ex (.mth 3 (.v 0) [.itm false (.v 1)])) [.ref S.length, .ref (S.length + 1)] (S ++ kObs S.length [] []) = .ok (.nx [.ref S.length, .ref (S.length + 1)]) (S ++ kObs S.length [] []) := by
    have ei : ev P (callN P (k + 2)) (.itm false (.v 1)) [.ref S.length, .ref (S.length + 1)] (S ++ kObs S.length [] []) = .ok (.lst []) (S ++ kObs S.length [] []) := by
      rw [ev, ev, getV_some rfl (by simp), R.bind_ok]
      simp only [g1]
      rfl
    rw [exS, ev, ev, getV_some rfl (by simp), R.bind_ok, mm]
    dsimp only
    rw [evs, ei, R.bind_ok, evs, R.bind_ok, R.bind_ok]
    have e' : callN P (k + 2) 12 [.ref S.length, .lst []] (S ++ kObs S.length [] []) = .ok .non (S ++ kObs S.length [] []) := e
    rw [e']
    rfl
  have es : (S ++ [Ob.ins 4 []]) ++ [.dic []] = S ++ [.ins 4 [], .dic []] := by simp
  rw [l1, es]
  show (exB P (callN P (k + 2)) [_, _, _] [.ref S.length, .ref (S.length + 1)] _).bind _ = _
  rw [exB_go a1, exB_go a2, exB_go a3, exB, R.bind_ok]
  show R.ok Wv.non (sweep (S.length + 1) .non (S ++ kObs S.length [] [])) = _
  unfold sweep
  rw [if_neg]
  intro z
  have := List.all_eq_true.mp z.2 (kIns (S.length + 2) (S.length + 3)) (List.mem_of_getElem? (i := S.length) (by rw [List.getElem?_take_of_lt (by omega), get_at0]; rfl))
  simp [Ob.under, under] at this
theorem run_make0 (H : HasK P) {k : Nat} (cl : Cl S) : makeW P (callN P (k + 3)) (.cls 4) S = .ok (.ref S.length) (S ++ kObs S.length [] []) := by
  unfold makeW
  simp only [H.i4, run_init H cl, R.bind_ok]
theorem run_of (H : HasK P) {k : Nat} (cl : Cl S) {L : List (Str × List Str)} (hL : LinesOk L) : ∃ (kn : List Wv) (ov : List (Key × Wv)), callN P (k + 4) 11 [.cls 4, .lst (L.map row)] S = .ok (.ref S.length) (S ++ kObs S.length kn ov) ∧ unders 0 kn = true ∧ OvOk L L.length ov := by
  rw [call_eq H.f11 rfl rfl (by decide)]
  have c : Cl (S ++ kObs S.length [] []) := kObs_cl cl rfl (fun _ => rfl)
  obtain ⟨kn, ov, e, h1, h2, h3⟩ := run_take H (k := k + 1) hL (T := S ++ kObs S.length [] []) (s := S.length) (a := S.length + 2) (b := S.length + 3) get_at0 (by omega) (by omega) (by omega) (get_at 2) (get_at 3) c
  rw [set_at, set_at] at e
  have e' : callN P (k + 3) 12 [.ref S.length, .lst (L.map row)] (S ++ kObs S.length [] []) = .ok .non (S ++ kObs S.length kn ov) := e
  have mm : methOf P (S ++ kObs S.length [] []) (.ref S.length) 3 = some 12 := by
    unfold methOf
    simp only [get_at0]
    exact H.m3
  have rr := run_rows (P := P) (n := k + 2) (S := S) H.f9 (L := L) (Nat.le_trans hL.few (by decide))
  have lz : (L.map row).length ≤ line := by rw [List.length_map]; exact Nat.le_trans hL.few (by decide)
  have a1 : exS P (callN P (k + 3)) (.ite (.not (.fn 9 [.v 1])) [.never] []) [.cls 4, .lst (L.map row), .unb] S = .ok (.nx [.cls 4, .lst (L.map row), .unb]) S := by
    simp [getV, rr]
  have a2 : exS P (callN P (k + 3)) (.asg (.nm 2) (.new (.v 0))) [.cls 4, .lst (L.map row), .unb] S = .ok (.nx [.cls 4, .lst (L.map row), .ref S.length]) (S ++ kObs S.length [] []) := by
    rw [exS, ev, ev, getV_some rfl (by simp), R.bind_ok, run_make0 H cl]
    rfl
  have a3 : exS P (callN P (k + 3)) (.ex (.mth 3 (.v 2) [.lst false (.v 1)])) [.cls 4, .lst (L.map row), .ref S.length] (S ++ kObs S.length [] []) = .ok (.nx [.cls 4, .lst (L.map row), .ref S.length]) (S ++ kObs S.length kn ov) := by
    have ei : ev P (callN P (k + 3)) (.lst false (.v 1)) [.cls 4, .lst (L.map row), .ref S.length] (S ++ kObs S.length [] []) = .ok (.lst (L.map row)) (S ++ kObs S.length [] []) := by
      rw [ev, ev, getV_some rfl (by simp), R.bind_ok]
      show (R.of (some (L.map row)) _).bind _ = _
      rw [R.of_some, R.bind_ok, newL_f lz]
    rw [exS, ev, ev, getV_some rfl (by simp), R.bind_ok, mm]
    dsimp only
    rw [evs, ei, R.bind_ok, evs, R.bind_ok, R.bind_ok, e']
    rfl
  refine ⟨kn, ov, ?_, h2, h3⟩
  show (exB P (callN P (k + 3)) [_, _, _, _] [.cls 4, .lst (L.map row), .unb] S).bind _ = _
  rw [exB_go a1, exB_go a2, exB_go a3, exB, exS, ev, getV_some rfl (by simp), R.bind_ok, R.bind_ok, R.bind_ok]
  show R.ok _ (sweep S.length (.ref S.length) _) = _
  unfold sweep
  rw [if_neg (by simp [under])]
end Pe

set_option Elab.async false
set_option linter.all false
set_option maxRecDepth 100000
set_option maxHeartbeats 4000000
/-! Runs: lines of a table, drawn. -/
namespace Pe
open PySem L2
variable {P : Pg} {n l B : Nat} {S : Sto}
theorem pick3 {d : Int} (h0 : 0 ≤ d) (h1 : d < 4) : ∃ k : Nat, k ≤ 2 ∧ idxW S (.lst [.int 0, .int 1, .int 1, .int 2]) (.int d) = some (.int k) := by
  have : d = 0 ∨ d = 1 ∨ d = 2 ∨ d = 3 := by omega
  rcases this with rfl | rfl | rfl | rfl
  · exact ⟨0, by decide, rfl⟩
  · exact ⟨1, by decide, rfl⟩
  · exact ⟨1, by decide, rfl⟩
  · exact ⟨2, by decide, rfl⟩
theorem ne_nil_ref {f : Nat} {ls : List Str} (h : S[f]? = some (.lst (stl ls))) : cmpW .ne S (.ref f) (.lst []) = some (!ls.isEmpty) := by
  show (eqV2 (view S (.ref f)) (.lst [])).map not = _
  have hv : view S (.ref f) = .lst (stl ls) := by simp [h]
  rw [hv]
  cases ls with
  | nil =>
    have : eqV2 (.lst (stl [])) (.lst []) = some true := by decide +kernel
    rw [this]
    rfl
  | cons x ls =>
    have : eqV2 (.lst (stl (x :: ls))) (.lst []) = some false := by
      simp [eqV2]
    rw [this]
    rfl
theorem erase_stl (ls : List Str) (j : Nat) : (stl ls).eraseIdx j = stl (ls.eraseIdx j) := by
  induction ls generalizing j with
  | nil => rfl
  | cons x ls ih =>
    cases j with
    | zero => rfl
    | succ j =>
      show _ :: (stl ls).eraseIdx j = _ :: stl (ls.eraseIdx j)
      rw [ih]
theorem not_mem_erase : ∀ {ls : List Str} {j : Nat} {x : Str}, ls.Nodup → ls[j]? = some x → x ∉ ls.eraseIdx j
  | [], j, x, _, h => by simp at h
  | y :: ls, 0, x, nd, h => by
    cases h
    exact (List.nodup_cons.mp nd).1
  | y :: ls, j + 1, x, nd, h => by
    obtain ⟨h1, h2⟩ := List.nodup_cons.mp nd
    have h' : ls[j]? = some x := h
    show x ∉ y :: ls.eraseIdx j
    rw [List.mem_cons, not_or]
    exact ⟨fun e => h1 (e ▸ List.mem_of_getElem? h'), not_mem_erase h2 h'⟩
/-- one base is drawn -/
structure Bas (l B : Nat) (S2 : Sto) (pre : List Str) (f t : Nat) (S3 : Sto) : Prop where
  len : S3.length = f + 2
  sr : Src l (B + t) S3
  old : ∀ j, j < f → j ≠ l → S3[j]? = S2[j]?
  ob : ∃ lf bs : List Str, S3[f]? = some (.lst (stl lf)) ∧ S3[f + 1]? = some (.lst (stl bs)) ∧ lf.Nodup ∧ bs.Nodup ∧ (∀ x ∈ lf, x ∉ bs) ∧ (∀ x ∈ lf, x ∈ pre) ∧ (∀ x ∈ bs, x ∈ pre) ∧ bs.length ≤ t
theorem run_base (hd : P.fn 25 = some fd_law_draw_v0) (hB : B ≤ 10 ^ 11) {S2 : Sto} {pre : List Str} (hp : pre.length ≤ 7) {f t : Nat} (ht : t ≤ 5) (hf : S2.length = f) (hlf : l < f) {S3 : Sto} (M : Bas l B S2 pre f t S3) {u1 u2 u3 : Wv} :
    ∃ S4, exB P (callN P (n + 1)) [.ite (.cmp .ne (.v 4) (.dsp false [])) [.ex (.mut .append (.v 5) [.mut .pop (.v 4) [.fn 25 [.v 0, .p1 .len (.v 4)]]])] []] [.ref l, u1, u2, u3, .ref f, .ref (f + 1), .int t] S3 = .ok (.nx [.ref l, u1, u2, u3, .ref f, .ref (f + 1), .int t]) S4 ∧ Bas l B S2 pre f (t + 1) S4 := by
  obtain ⟨lf, bs, h1, h2, n1, n2, dj, p1, p2, lb⟩ := M.ob
  have hne := ne_nil_ref h1
  have len := M.len
  cases lf with
  | nil =>
    refine ⟨S3, ?_, ⟨len, M.sr.mono (by omega), M.old, [], bs, h1, h2, n1, n2, dj, p1, p2, by omega⟩⟩
    simp [getV, newL, show 0 ≤ line by decide, hne]
  | cons y lf =>
    have l7 : (y :: lf).length ≤ 7 := Nat.le_trans (nodup_sub n1 p1) hp
    obtain ⟨d, S4, e, d0, d1, s4, w4⟩ := run_draw (n := n) hd M.sr (by omega) (m := ((y :: lf).length : Int)) (by simp only [List.length_cons]; omega) (by omega)
    obtain ⟨j, rfl⟩ : ∃ j : Nat, d = (j : Int) := ⟨d.toNat, by omega⟩
    have hj : j < (y :: lf).length := by omega
    have l4 : S4.length = f + 2 := by rw [w4.len, len]
    have g1 : S4[f]? = some (.lst (stl (y :: lf))) := by rw [w4.get (by omega), h1]
    have g2 : S4[f + 1]? = some (.lst (stl bs)) := by rw [w4.get (by omega), h2]
    have hx : (y :: lf)[j]? = some (y :: lf)[j] := List.getElem?_eq_getElem hj
    generalize (y :: lf)[j] = x at hx
    have i1 : isBx S3 (.ref (f + 1)) = true := by unfold isBx; simp only [h2]
    have i2 : isBx S3 (.ref f) = true := by unfold isBx; simp only [h1]
    have ixj : ixN (stl (y :: lf)).length (j : Int) = some j := by
      unfold ixN
      rw [List.length_map, if_pos (by omega), if_pos (by omega), Int.toNat_natCast]
    have m1 : mut1 .pop S4 (.ref f) [.int j] = .ok (.str x) (S4.set f (.lst (stl ((y :: lf).eraseIdx j)))) := by
      unfold mut1
      simp only [g1, ixj]
      rw [show (stl (y :: lf))[j]? = some (.str x) by rw [List.getElem?_map, hx]; rfl]
      dsimp only
      rw [if_pos (by rw [List.length_map]; exact Nat.le_trans l7 (by decide)), erase_stl]
    have m2 : mut1 .append (S4.set f (.lst (stl ((y :: lf).eraseIdx j)))) (.ref (f + 1)) [.str x] = .ok .non ((S4.set f (.lst (stl ((y :: lf).eraseIdx j)))).set (f + 1) (.lst (stl (bs ++ [x])))) := by
      have g3 : (S4.set f (.lst (stl ((y :: lf).eraseIdx j))))[f + 1]? = some (.lst (stl bs)) := by rw [List.getElem?_set_ne (by omega), g2]
      rw [mut_app g3 (by rw [List.length_map]; exact Nat.lt_of_le_of_lt lb (Nat.lt_of_le_of_lt ht (by decide)))]
      show _ = R.ok Wv.non ((S4.set f _).set (f + 1) (Ob.lst (List.map Wv.str (bs ++ [x]))))
      rw [List.map_append]
      rfl
    have hl : pr1 .len S3 (.ref f) = some (.int ((y :: lf).length : Nat)) := by
      unfold pr1
      simp only [view, h1]
      rw [List.length_map]
    have ea : ev P (callN P (n + 1)) (.mut .pop (.v 4) [.fn 25 [.v 0, .p1 .len (.v 4)]]) [.ref l, u1, u2, u3, .ref f, .ref (f + 1), .int t] S3 = .ok (.str x) (S4.set f (.lst (stl ((y :: lf).eraseIdx j)))) := by
      rw [ev, ev, getV_some rfl (by simp), R.bind_ok, if_pos i2, evs, ev, evs, ev, getV_some rfl (by simp), R.bind_ok, evs, ev, ev, getV_some rfl (by simp), R.bind_ok, hl, R.of_some, R.bind_ok, evs, R.bind_ok, R.bind_ok, R.bind_ok, e, R.bind_ok, evs, R.bind_ok, R.bind_ok, m1]
    have eb : exS P (callN P (n + 1)) (.ex (.mut .append (.v 5) [.mut .pop (.v 4) [.fn 25 [.v 0, .p1 .len (.v 4)]]])) [.ref l, u1, u2, u3, .ref f, .ref (f + 1), .int t] S3 = .ok (.nx [.ref l, u1, u2, u3, .ref f, .ref (f + 1), .int t]) ((S4.set f (.lst (stl ((y :: lf).eraseIdx j)))).set (f + 1) (.lst (stl (bs ++ [x])))) := by
      rw [exS, ev, ev, getV_some rfl (by simp), R.bind_ok, if_pos i1, evs, ea, R.bind_ok, evs, R.bind_ok, R.bind_ok, m2, R.bind_ok]
    have et : ev P (callN P (n + 1)) (.cmp .ne (.v 4) (.dsp false [])) [.ref l, u1, u2, u3, .ref f, .ref (f + 1), .int t] S3 = .ok (.bl true) S3 := by
      rw [ev, ev, getV_some rfl (by simp), R.bind_ok, ev, evs, R.bind_ok, newL_f (Nat.zero_le _), R.bind_ok, hne]
      rfl
    have xm : x ∈ y :: lf := List.mem_of_getElem? hx
    have xb : x ∉ bs := dj x xm
    refine ⟨(S4.set f (.lst (stl ((y :: lf).eraseIdx j)))).set (f + 1) (.lst (stl (bs ++ [x]))), ?_, ⟨by rw [List.length_set, List.length_set, l4], ?_, fun i hi hil => ?_, (y :: lf).eraseIdx j, bs ++ [x], ?_, ?_, ?_, ?_, ?_, ?_, ?_, ?_⟩⟩
    · rw [exB, exS, et, R.bind_ok, asBool, R.bind_ok, if_pos rfl, exB_go eb]
      rfl
    · obtain ⟨a, b, q1, q2⟩ := s4
      exact ⟨a, b, by rw [List.getElem?_set_ne (by omega), List.getElem?_set_ne (by omega)]; exact q1, q2⟩
    · rw [List.getElem?_set_ne (by omega), List.getElem?_set_ne (by omega), w4.get hil, M.old i hi hil]
    · rw [List.getElem?_set_ne (by omega), List.getElem?_set_self (by omega)]
    · exact List.getElem?_set_self (by rw [List.length_set]; omega)
    · exact List.Nodup.sublist (List.eraseIdx_sublist _ _) n1
    · refine List.nodup_append.mpr ⟨n2, by simp, fun p hp q hq e => ?_⟩
      rw [List.mem_singleton.mp hq] at e
      exact xb (e ▸ hp)
    · intro z hz hq
      rcases List.mem_append.mp hq with hq | hq
      · exact dj z ((List.eraseIdx_sublist _ _).subset hz) hq
      · rw [List.mem_singleton.mp hq] at hz
        exact not_mem_erase n1 hx hz
    · exact fun z hz => p1 z ((List.eraseIdx_sublist _ _).subset hz)
    · intro z hz
      rcases List.mem_append.mp hz with hz | hz
      · exact p2 z hz
      · rw [List.mem_singleton.mp hz]
        exact p1 x xm
    · rw [List.length_append]
      simp
      exact lb
theorem under_rows {k : Nat} : ∀ L : List (Str × List Str), unders k (L.map row) = true
  | [] => rfl
  | p :: L => by
    show (under k (row p) && unders k (L.map row)) = true
    rw [under_rows L, Bool.and_true]
    show (under k (.str p.1) && (under k (.tup (stl p.2)) && true)) = true
    rw [show under k (.tup (stl p.2)) = true from under_stl p.2]
    rfl
/-- how far the lines are drawn -/
structure Lin (l B : Nat) (S : Sto) (ls : List Str) (i : Nat) (S2 : Sto) : Prop where
  len : S.length + 1 ≤ S2.length
  sr : Src l (B + 4 * i) S2
  old : ∀ j, j < S.length → j ≠ l → S2[j]? = S[j]?
  ob : ∃ L : List (Str × List Str), S2[S.length]? = some (.lst (L.map row)) ∧ L.map (·.1) = ls.take i ∧ ∀ (i : Nat) (p : Str × List Str), L[i]? = some p → (∀ b ∈ p.2, b ∈ (L.take i).map (·.1)) ∧ p.2.Nodup ∧ p.2.length ≤ 2
theorem run_line (hd : P.fn 25 = some fd_law_draw_v0) (hB : B ≤ 10 ^ 10) {ls : List Str} (hl : Labels ls) {S : Sto} (hlS : l < S.length) {i : Nat} {x : Str} (hx : ls[i]? = some x) {S2 : Sto} (M : Lin l B S ls i S2) {u4 u5 u6 : Wv} :
    ∃ v4 v5 v6 S3, exB P (callN P (n + 1)) [.par 4 5 (.lst true (.slc (.v 1) none (some (.v 3)))) (.dsp true []), .for_ (.nm 6) (.rng [.idx (.dsp false [.k (.int 0), .k (.int 1), .k (.int 1), .k (.int 2)]) (.fn 25 [.v 0, .k (.int 4)])]) [.ite (.cmp .ne (.v 4) (.dsp false [])) [.ex (.mut .append (.v 5) [.mut .pop (.v 4) [.fn 25 [.v 0, .p1 .len (.v 4)]]])] []], .ex (.mut .append (.v 2) [.tup [.idx (.v 1) (.v 3), .p1 .tuple (.v 5)]])]
      [.ref l, .lst (stl ls), .ref S.length, .int i, u4, u5, u6] S2 = .ok (.nx [.ref l, .lst (stl ls), .ref S.length, .int i, v4, v5, v6]) S3 ∧ Lin l B S ls (i + 1) S3 := by
  obtain ⟨L, h1, h2, h3⟩ := M.ob
  have hil := (List.getElem?_eq_some_iff.mp hx).1
  have l7 := hl.few.2
  have len := M.len
  have a1 : exS P (callN P (n + 1)) (.par 4 5 (.lst true (.slc (.v 1) none (some (.v 3)))) (.dsp true [])) [.ref l, .lst (stl ls), .ref S.length, .int i, u4, u5, u6] S2 = .ok (.nx [.ref l, .lst (stl ls), .ref S.length, .int i, .ref S2.length, .ref (S2.length + 1), u6]) (S2 ++ [.lst (stl (ls.take i)), .lst []]) := by
    have sl : slcW S2 (.lst (stl ls)) none (some (i : Int)) = some (.lst (stl (ls.take i))) := by
      show some (Wv.lst (cutW (stl ls) none (some (i : Int)))) = _
      unfold cutW
      rw [HT.sIx_none, HT.sIx_nat, List.length_map, Nat.min_eq_left (by omega), Nat.sub_zero, List.drop_zero, ← List.map_take]
    have el : ev P (callN P (n + 1)) (.lst true (.slc (.v 1) none (some (.v 3)))) [.ref l, .lst (stl ls), .ref S.length, .int i, u4, u5, u6] S2 = .ok (.ref S2.length) (S2 ++ [.lst (stl (ls.take i))]) := by
      rw [ev, ev, ev, getV_some rfl (by simp), R.bind_ok, evO, R.bind_ok, evO, ev, getV_some rfl (by simp), R.bind_ok]
      show ((R.of (slcW S2 (.lst (stl ls)) none (some (i : Int))) S2).bind _).bind _ = _
      rw [sl, R.of_some, R.bind_ok, R.bind_ok]
      show (R.of (some (stl (ls.take i))) S2).bind _ = _
      rw [R.of_some, R.bind_ok, newL_t]
      rw [List.length_map, List.length_take]
      exact Nat.le_trans (Nat.min_le_right _ _) (Nat.le_trans l7 (by decide))
    rw [exS, el, R.bind_ok, ev, evs, R.bind_ok, newL_t (Nat.zero_le _), R.bind_ok]
    simp
  -- the turns
  have s2 : Src l (B + 4 * i) (S2 ++ [.lst (stl (ls.take i)), .lst []]) := by
    obtain ⟨a, b, q1, q2⟩ := M.sr
    exact ⟨a, b, by rw [get_old (List.getElem?_eq_some_iff.mp q1).1]; exact q1, q2⟩
  obtain ⟨d, S3, e3, d0, d1, s3, w3⟩ := run_draw (n := n) hd s2 (by omega) (m := 4) (by decide) (by decide)
  obtain ⟨k, hk, ek⟩ := pick3 (S := S3) d0 d1
  have hi : evI P (callN P (n + 1)) (.rng [.idx (.dsp false [.k (.int 0), .k (.int 1), .k (.int 1), .k (.int 2)]) (.fn 25 [.v 0, .k (.int 4)])]) [.ref l, .lst (stl ls), .ref S.length, .int i, .ref S2.length, .ref (S2.length + 1), u6] (S2 ++ [.lst (stl (ls.take i)), .lst []]) = .ok (rngI k) S3 := by
    refine evI_rng (k := (k : Int)) ?_ rfl (by omega)
    simp only [ev, evs, R.bind_ok, newL_f (show [Wv.int 0, .int 1, .int 1, .int 2].length ≤ line by decide), getV_some (r := [.ref l, .lst (stl ls), .ref S.length, .int i, .ref S2.length, .ref (S2.length + 1), u6]) (i := 0) rfl (show Wv.ref l ≠ .unb by simp), e3, ek, R.of_some]
  have lS3 : S3.length = S2.length + 2 := by rw [w3.len]; simp
  have hpre : (ls.take i).length ≤ 7 := by rw [List.length_take]; omega
  have ndp : (ls.take i).Nodup := List.Nodup.sublist (List.take_sublist _ _) hl.nd
  have B0 : Bas l (B + 4 * i + 1) S2 (ls.take i) S2.length 0 S3 := by
    refine ⟨lS3, s3, fun j hj jl => ?_, ls.take i, [], ?_, ?_, ndp, by simp, by simp, fun x hx => hx, by simp, by simp⟩
    · rw [w3.get jl, get_old hj]
    · rw [w3.get (by omega), get_at0]
      rfl
    · rw [w3.get (by omega), get_at 1]
      rfl
  obtain ⟨r4, S4, e4, M4, v6, rfl⟩ := for_inv (g := .nm 6) (b := [.ite (.cmp .ne (.v 4) (.dsp false [])) [.ex (.mut .append (.v 5) [.mut .pop (.v 4) [.fn 25 [.v 0, .p1 .len (.v 4)]]])] []]) hi
    (fun t r S5 => Bas l (B + 4 * i + 1) S2 (ls.take i) S2.length t S5 ∧ ∃ v6, r = [.ref l, .lst (stl ls), .ref S.length, .int i, .ref S2.length, .ref (S2.length + 1), v6]) ⟨B0, _, rfl⟩ (fun _ _ _ _ _ => rfl) (fun t y r S5 hy hI => by
      obtain ⟨M, v6, rfl⟩ := hI
      obtain ⟨ht, rfl⟩ := rng_at hy
      obtain ⟨S6, e6, M6⟩ := run_base (n := n) (u1 := .lst (stl ls)) (u2 := .ref S.length) (u3 := .int i) hd (by omega) hpre (t := t) (by omega) rfl (by omega) M
      exact ⟨_, _, S6, rfl, e6, M6, _, rfl⟩)
  rw [rng_len] at M4
  obtain ⟨lf, bs, g1, g2, n1, n2, dj, p1, p2, lb⟩ := M4.ob
  have l4 := M4.len
  have gc : S4[S.length]? = some (.lst (L.map row)) := by rw [M4.old _ (by omega) (by omega), h1]
  have hLl : L.length = i := by
    have := congrArg List.length h2
    rw [List.length_map, List.length_take] at this
    omega
  have a3 : exS P (callN P (n + 1)) (.ex (.mut .append (.v 2) [.tup [.idx (.v 1) (.v 3), .p1 .tuple (.v 5)]])) [.ref l, .lst (stl ls), .ref S.length, .int i, .ref S2.length, .ref (S2.length + 1), v6] S4 = .ok (.nx [.ref l, .lst (stl ls), .ref S.length, .int i, .ref S2.length, .ref (S2.length + 1), v6]) (S4.set S.length (.lst (L.map row ++ [row (x, bs)]))) := by
    have ei := idx_lst (xs := stl ls) (k := (i : Int)) (S := S4) rfl (show (stl ls)[i]? = some (.str x) by rw [List.getElem?_map, hx]; rfl)
    have et : pr1 .tuple S4 (.ref (S2.length + 1)) = some (.tup (stl bs)) := by
      unfold pr1
      simp only [view, g2]
    have ea : ev P (callN P (n + 1)) (.tup [.idx (.v 1) (.v 3), .p1 .tuple (.v 5)]) [.ref l, .lst (stl ls), .ref S.length, .int i, .ref S2.length, .ref (S2.length + 1), v6] S4 = .ok (row (x, bs)) S4 := by
      rw [ev, evs, ev, ev, getV_some rfl (by simp), R.bind_ok, ev, getV_some rfl (by simp), R.bind_ok, ei, R.of_some, R.bind_ok, evs, ev, ev, getV_some rfl (by simp), R.bind_ok, et, R.of_some, R.bind_ok, evs, R.bind_ok, R.bind_ok, R.bind_ok, if_pos (show [Wv.str x, Wv.tup (stl bs)].length ≤ line from (by decide : 2 ≤ line))]
    rw [exS, ev, ev, getV_some rfl (by simp), R.bind_ok, if_pos (isBx_of gc), evs, ea, R.bind_ok, evs, R.bind_ok, R.bind_ok, mut_app gc (by rw [List.length_map, hLl]; exact Nat.lt_of_lt_of_le hil (Nat.le_trans l7 (by decide))), R.bind_ok]
  refine ⟨_, _, _, _, by rw [exB_go a1, exB_go e4, exB_go a3]; rfl, ⟨by rw [List.length_set, l4]; omega, ?_, fun j hj jl => ?_, L ++ [(x, bs)], ?_, ?_, fun q p hp => ?_⟩⟩
  · obtain ⟨a, b, q1, q2⟩ := M4.sr
    have s5 : Src l (B + 4 * i + 1 + k) (S4.set S.length (.lst (L.map row ++ [row (x, bs)]))) := ⟨a, b, by rw [List.getElem?_set_ne (by omega)]; exact q1, q2⟩
    exact s5.mono (by omega)
  · rw [List.getElem?_set_ne (by omega), M4.old j (by omega) jl, M.old j hj jl]
  · rw [List.getElem?_set_self (by omega), List.map_append]
    rfl
  · rw [List.map_append, h2, List.take_add_one, hx]
    rfl
  · by_cases hq : q < L.length
    · rw [List.getElem?_append_left hq] at hp
      rw [List.take_append_of_le_length (by omega)]
      exact h3 q p hp
    · have hq2 := (List.getElem?_eq_some_iff.mp hp).1
      rw [List.length_append, List.length_singleton] at hq2
      have : q = L.length := by omega
      subst this
      rw [List.getElem?_append_right (Nat.le_refl _), Nat.sub_self] at hp
      cases hp
      rw [List.take_left' rfl, h2]
      exact ⟨p2, n2, Nat.le_trans lb hk⟩
theorem run_lines (h : P.fn 27 = some fd_law_random_lines) (hd : P.fn 25 = some fd_law_draw_v0) (hs : Src l B S) (hB : B ≤ 10 ^ 10) (cl : Cl S) {ls : List Str} (hl : Labels ls) :
    ∃ (L : List (Str × List Str)) (S' : Sto), callN P (n + 2) 27 [.ref l, .lst (stl ls)] S = .ok (.lst (L.map row)) S' ∧ LinesOk L ∧ L.map (·.1) = ls ∧ Src l (B + 28) S' ∧ Drw l S S' := by
  have hlS := hs.lt
  have l7 := hl.few.2
  rw [call_eq h rfl rfl (by decide)]
  have a1 : exS P (callN P (n + 1)) (.asg (.nm 2) (.dsp true [])) [.ref l, .lst (stl ls), .unb, .unb, .unb, .unb, .unb] S = .ok (.nx [.ref l, .lst (stl ls), .ref S.length, .unb, .unb, .unb, .unb]) (S ++ [.lst []]) := by
    rw [exS, ev, evs, R.bind_ok, newL_t (Nat.zero_le _), R.bind_ok]
    rfl
  have hi : evI P (callN P (n + 1)) (.rng [.p1 .len (.v 1)]) [.ref l, .lst (stl ls), .ref S.length, .unb, .unb, .unb, .unb] (S ++ [.lst []]) = .ok (rngI ls.length) (S ++ [.lst []]) := by
    refine evI_rng (k := (ls.length : Nat)) ?_ rfl (by omega)
    rw [ev, ev, getV_some rfl (by simp), R.bind_ok]
    show R.of (some (Wv.int (stl ls).length)) _ = _
    rw [List.length_map]
    rfl
  obtain ⟨r2, S2, e2, M2, v3, v4, v5, v6, rfl⟩ := for_inv (g := .nm 3) (b := [.par 4 5 (.lst true (.slc (.v 1) none (some (.v 3)))) (.dsp true []), .for_ (.nm 6) (.rng [.idx (.dsp false [.k (.int 0), .k (.int 1), .k (.int 1), .k (.int 2)]) (.fn 25 [.v 0, .k (.int 4)])]) [.ite (.cmp .ne (.v 4) (.dsp false [])) [.ex (.mut .append (.v 5) [.mut .pop (.v 4) [.fn 25 [.v 0, .p1 .len (.v 4)]]])] []], .ex (.mut .append (.v 2) [.tup [.idx (.v 1) (.v 3), .p1 .tuple (.v 5)]])]) hi
    (fun i r S2 => Lin l B S ls i S2 ∧ ∃ v3 v4 v5 v6, r = [.ref l, .lst (stl ls), .ref S.length, v3, v4, v5, v6])
    ⟨⟨by simp, by
      obtain ⟨a, b, q1, q2⟩ := hs
      exact ⟨a, b, by rw [get_old hlS]; exact q1, q2⟩, fun j hj _ => get_old hj, [], by rw [get_last]; rfl, by simp, by simp⟩, _, _, _, _, rfl⟩ (fun _ _ _ _ _ => rfl) (fun i y r S3 hy hI => by
      obtain ⟨M, v3, v4, v5, v6, rfl⟩ := hI
      obtain ⟨hi, rfl⟩ := rng_at hy
      obtain ⟨w4, w5, w6, S4, e, M'⟩ := run_line (n := n) (u4 := v4) (u5 := v5) (u6 := v6) hd hB hl hlS (List.getElem?_eq_getElem hi) M
      exact ⟨_, _, S4, rfl, e, M', _, _, _, _, rfl⟩)
  rw [rng_len] at M2
  obtain ⟨L, h1, h2, h3⟩ := M2.ob
  rw [List.take_length] at h2
  have hLl : L.length = ls.length := by rw [← h2, List.length_map]
  obtain ⟨a, b, q1, q2⟩ := M2.sr
  have hl2 : (S.set l (src a b)).length = S.length := List.length_set
  refine ⟨L, S.set l (src a b), ?_, ⟨by rw [h2]; exact hl.nd, fun p hp => hl.nm _ (by rw [← h2]; exact List.mem_map.mpr ⟨p, hp, rfl⟩), by omega, h3⟩, h2, ⟨a, b, List.getElem?_set_self hlS, ?_⟩, .inr ⟨a, b, rfl⟩⟩
  · show (exB P (callN P (n + 1)) [_, _, _] [.ref l, .lst (stl ls), .unb, .unb, .unb, .unb, .unb] S).bind _ = _
    rw [exB_go a1, exB_go e2, exB, exS, ev, ev, getV_some rfl (by simp), R.bind_ok]
    have ef : frzW S2 (.ref S.length) = .ok (.lst (L.map row)) (S2.set S.length .dead) := by
      unfold frzW
      simp only [h1]
    rw [ef, R.bind_ok, R.bind_ok, R.bind_ok]
    show R.ok _ (sweep S.length (.lst (L.map row)) (S2.set S.length .dead)) = _
    rw [sweep_to (T' := S.set l (src a b)) (cl.set (by simp [Ob.under, unders, under])) hl2 (by rw [List.length_set]; have := M2.len; omega) (fun j hj => ?_) (show under S.length (.lst (L.map row)) = true by unfold under; exact under_rows L)]
    rw [List.getElem?_set_ne (by omega)]
    by_cases jl : j = l
    · subst jl
      rw [q1, List.getElem?_set_self hlS]
    · rw [List.getElem?_set_ne (Ne.symm jl), M2.old j hj jl]
  · refine ⟨q2.1, ?_⟩
    rcases q2.2 with z | ⟨z1, z2, z3⟩
    · exact .inl z
    · exact .inr ⟨z1, by omega, z3⟩
end Pe

set_option Elab.async false
set_option linter.all false
set_option maxRecDepth 100000
set_option maxHeartbeats 4000000
/-! Runs: what stands over each kind; a law's setup. -/
namespace Pe
open PySem L2
variable {P : Pg} {n l B : Nat} {S : Sto}
theorem ev_more2 {F : Fo} {r : Ev} {ws fs : List Str} {it : C} (hit : ev P F it r S = .ok (.lst (stl ws)) S) (h4 : r[4]? = some (.lst (stl fs))) (h6 : 6 < r.length) (hw : ws.length ≤ 1000) :
    ev P F (.lc false [6] (.nm 6) (.any it) [.cmp .notin (.v 6) (.v 4)] (.v 6)) r S = .ok (.lst (stl (ws.filter fun w => !decide (w ∈ fs)))) S := by
  have hi : evI P F (.any it) r S = .ok ⟨stl ws, none⟩ S := by
    rw [evI, hit, R.bind_ok]
    rfl
  have hl : (stl ws).length ≤ line := by rw [List.length_map]; exact Nat.le_trans hw (by decide)
  obtain ⟨ys, S', e, rfl, rfl⟩ := lc_inv (bx := false) (own := [6]) (g := .nm 6) (cond := [.cmp .notin (.v 6) (.v 4)]) (e := .v 6) hi hl (fun i ys S2 => S2 = S ∧ ys = stl ((ws.take i).filter fun w => !decide (w ∈ fs))) ⟨rfl, rfl⟩ (fun _ _ _ _ _ => rfl) (fun i x ys S2 hx hI => by
    obtain ⟨rfl, rfl⟩ := hI
    rw [List.getElem?_map] at hx
    obtain ⟨w, hw', rfl⟩ := Option.map_eq_some_iff.mp hx
    have g6 : getV (r.set 6 (.str w)) 6 S2 = .ok (.str w) S2 := getV_some (by rw [List.getElem?_set_self h6]) (by simp)
    have g4 : getV (r.set 6 (.str w)) 4 S2 = .ok (.lst (stl fs)) S2 := getV_some (by rw [List.getElem?_set_ne (by decide), h4]) (by simp)
    have ec : ev P F (.cmp .notin (.v 6) (.v 4)) (r.set 6 (.str w)) S2 = .ok (.bl (!decide (w ∈ fs))) S2 := by
      rw [ev, ev, g6, R.bind_ok, ev, g4, R.bind_ok]
      show R.of (((inW S2 (.str w) (.lst (stl fs))).map not).map Wv.bl) S2 = _
      rw [in_lst]
      rfl
    have et : ws.take (i + 1) = ws.take i ++ [w] := by rw [List.take_add_one, hw']; rfl
    refine ⟨r.set 6 (.str w), S2, by simp [h6], ?_⟩
    by_cases c : w ∈ fs
    · refine .inl ⟨?_, rfl, ?_⟩
      · rw [evAll, ec]
        simp [c]
      · rw [et, List.filter_append]
        simp [c]
    · refine .inr ⟨?_, .str w, S2, by rw [ev, g6], rfl, ?_⟩
      · rw [evAll, ec]
        simp [c]
      · rw [et, List.filter_append]
        simp [c])
  rw [e]
  have e2 : (stl ws).length = ws.length := List.length_map _
  dsimp only
  rw [e2, List.take_length, newL_f]
  rw [List.length_map]
  exact Nat.le_trans (List.length_filter_le _ _) (Nat.le_trans hw (by decide))
theorem run_over (h : P.fn 28 = some fd_law_over) {L : List (Str × List Str)} (hL : LinesOk L) :
    ∃ ov : List (Key × Wv), callN P (n + 1) 28 [.lst (L.map row)] S = .ok (.ref S.length) (S ++ [.dic ov]) ∧ OvOk L L.length ov := by
  have l7 := hL.few
  have l7' : (L.map (·.1)).length ≤ 7 := by rw [List.length_map]; exact l7
  rw [call_eq h rfl rfl (by decide)]
  have a1 : exS P (callN P n) (.asg (.nm 1) .dnew) [.lst (L.map row), .unb, .unb, .unb, .unb, .unb, .unb] S = .ok (.nx [.lst (L.map row), .ref S.length, .unb, .unb, .unb, .unb, .unb]) (S ++ [.dic []]) := by
    rw [exS, ev, R.bind_ok]
    rfl
  have hi : evI P (callN P n) (.any (.v 0)) [.lst (L.map row), .ref S.length, .unb, .unb, .unb, .unb, .unb] (S ++ [.dic []]) = .ok ⟨L.map row, none⟩ (S ++ [.dic []]) := by
    rw [evI, ev, getV_some rfl (by simp), R.bind_ok]
    rfl
  obtain ⟨r2, S2, e2, ov, rfl, ho, v2, v3, v4, v5, rfl⟩ := for_inv (g := .tp [.nm 2, .nm 3]) (b := [.asg (.nm 4) (.dsp false [.v 2]), .for_ (.nm 5) (.any (.v 3)) [.asg (.nm 4) (.bin .add (.v 4) (.lc false [6] (.nm 6) (.any (.idx (.v 1) (.v 5))) [.cmp .notin (.v 6) (.v 4)] (.v 6)))], .seti (.v 1) (.v 2) (.v 4)]) hi
    (fun i r S2 => ∃ ov, S2 = S ++ [.dic ov] ∧ OvOk L i ov ∧ ∃ v2 v3 v4 v5, r = [.lst (L.map row), .ref S.length, v2, v3, v4, v5, .unb]) ⟨[], rfl, ⟨rfl, by simp⟩, _, _, _, _, rfl⟩ (fun _ _ _ _ _ => rfl) (fun i y r S2 hy hI => by
      obtain ⟨ov, rfl, ho, v2, v3, v4, v5, rfl⟩ := hI
      rw [List.getElem?_map] at hy
      obtain ⟨⟨x, bs⟩, hp, rfl⟩ := Option.map_eq_some_iff.mp hy
      have hil := (List.getElem?_eq_some_iff.mp hp).1
      have hxm : x ∈ L.map (·.1) := List.mem_map.mpr ⟨_, List.mem_of_getElem? hp, rfl⟩
      have b1 : exS P (callN P n) (.asg (.nm 4) (.dsp false [.v 2])) [.lst (L.map row), .ref S.length, .str x, .tup (stl bs), v4, v5, .unb] (S ++ [.dic ov]) = .ok (.nx [.lst (L.map row), .ref S.length, .str x, .tup (stl bs), .lst (stl [x]), v5, .unb]) (S ++ [.dic ov]) := by
        rw [exS, ev, evs, ev, getV_some rfl (by simp), R.bind_ok, evs, R.bind_ok, R.bind_ok, newL_f (show [Wv.str x].length ≤ line from (by decide : 1 ≤ line)), R.bind_ok]
        rfl
      have hi2 : evI P (callN P n) (.any (.v 3)) [.lst (L.map row), .ref S.length, .str x, .tup (stl bs), .lst (stl [x]), v5, .unb] (S ++ [.dic ov]) = .ok ⟨stl bs, none⟩ (S ++ [.dic ov]) := by
        rw [evI, ev, getV_some rfl (by simp), R.bind_ok]
        rfl
      obtain ⟨r3, S3, e3, rfl, fs, nf, sf, v6, rfl⟩ := for_inv (g := .nm 5) (b := [.asg (.nm 4) (.bin .add (.v 4) (.lc false [6] (.nm 6) (.any (.idx (.v 1) (.v 5))) [.cmp .notin (.v 6) (.v 4)] (.v 6)))]) hi2
        (fun j r S3 => S3 = S ++ [.dic ov] ∧ ∃ fs : List Str, fs.Nodup ∧ (∀ w ∈ fs, w ∈ L.map (·.1)) ∧ ∃ v6, r = [.lst (L.map row), .ref S.length, .str x, .tup (stl bs), .lst (stl fs), v6, .unb]) ⟨rfl, [x], by simp, fun w hw => by rw [List.mem_singleton.mp hw]; exact hxm, _, rfl⟩ (fun _ _ _ _ _ => rfl) (fun j y r S3 hy hI => by
          obtain ⟨rfl, fs, nf, sf, v6, rfl⟩ := hI
          rw [List.getElem?_map] at hy
          obtain ⟨bb, hbb, rfl⟩ := Option.map_eq_some_iff.mp hy
          have hbi : bb ∈ bs := List.mem_of_getElem? hbb
          have hk : (Sum.inr bb : Key) ∈ ov.map (·.1) := by
            rw [ho.ks]
            exact List.mem_map.mpr ⟨bb, (hL.bs i _ hp).1 bb hbi, rfl⟩
          obtain ⟨v, q1, q2⟩ := look_mem hk
          obtain ⟨ws, rfl, h3, h4⟩ := ho.vs _ q2
          have lw : ws.length ≤ 7 := Nat.le_trans (nodup_sub h3 h4) l7'
          have hit : ev P (callN P n) (.idx (.v 1) (.v 5)) [.lst (L.map row), .ref S.length, .str x, .tup (stl bs), .lst (stl fs), .str bb, .unb] (S ++ [.dic ov]) = .ok (.lst (stl ws)) (S ++ [.dic ov]) := by
            have ei : idxW (S ++ [Ob.dic ov]) (.ref S.length) (.str bb) = some (.lst (stl ws)) := by
              unfold idxW
              simp only [view, get_last]
              exact q1
            rw [ev, ev, getV_some rfl (by simp), R.bind_ok, ev, getV_some rfl (by simp), R.bind_ok, ei]
            rfl
          have em := ev_more2 (P := P) (F := callN P n) (S := S ++ [.dic ov]) (r := [.lst (L.map row), .ref S.length, .str x, .tup (stl bs), .lst (stl fs), .str bb, .unb]) (ws := ws) (fs := fs) hit rfl (by simp) (by omega)
          have nd : (fs ++ ws.filter fun w => !decide (w ∈ fs)).Nodup := by
            refine List.nodup_append.mpr ⟨nf, List.Pairwise.filter _ h3, fun p hp q hq e => ?_⟩
            have := (List.mem_filter.mp hq).2
            rw [← e] at this
            simp [hp] at this
          have sb : ∀ w ∈ fs ++ ws.filter fun w => !decide (w ∈ fs), w ∈ L.map (·.1) := fun w hw => by
            rcases List.mem_append.mp hw with hw | hw
            · exact sf w hw
            · exact h4 w (List.mem_filter.mp hw).1
          have lz : (stl fs).length + (stl (ws.filter fun w => !decide (w ∈ fs))).length ≤ line := by
            have := Nat.le_trans (nodup_sub nd sb) l7'
            rw [List.length_append] at this
            rw [List.length_map, List.length_map]
            exact Nat.le_trans this (by decide)
          have bo : binW .add (S ++ [Ob.dic ov]) (.lst (stl fs)) (.lst (stl (ws.filter fun w => !decide (w ∈ fs)))) = some (.lst (stl (fs ++ ws.filter fun w => !decide (w ∈ fs)))) := by
            show (if (stl fs).length + (stl (ws.filter fun w => !decide (w ∈ fs))).length ≤ line then some (Wv.lst (stl fs ++ stl (ws.filter fun w => !decide (w ∈ fs)))) else none) = _
            rw [if_pos lz, ← List.map_append]
          refine ⟨[.lst (L.map row), .ref S.length, .str x, .tup (stl bs), .lst (stl fs), .str bb, .unb], [.lst (L.map row), .ref S.length, .str x, .tup (stl bs), .lst (stl (fs ++ ws.filter fun w => !decide (w ∈ fs))), .str bb, .unb], _, rfl, ?_, rfl, _, nd, sb, _, rfl⟩
          rw [exB, exS, ev, ev, getV_some rfl (by simp), R.bind_ok, em, R.bind_ok, bo, R.of_some, R.bind_ok]
          rfl)
      have lf := Nat.le_trans (nodup_sub nf sf) l7'
      have lo : ov.length = i := by
        have := congrArg List.length ho.ks
        rw [List.length_map, List.length_map, List.length_map, List.length_take] at this
        omega
      have nk : (Sum.inr x : Key) ∉ ov.map (·.1) := by
        rw [ho.ks]
        intro z
        obtain ⟨y, hy, e⟩ := List.mem_map.mp z
        cases e
        have nd := hL.nd
        have hx : (L.map (·.1))[i]? = some x := by rw [List.getElem?_map, hp]; rfl
        rw [← List.take_append_drop i (L.map (·.1))] at nd
        obtain ⟨_, _, h3⟩ := List.nodup_append.mp nd
        refine h3 x (by rw [← List.map_take]; exact hy) x ?_ rfl
        rw [List.drop_eq_getElem_cons (by rw [List.length_map]; exact hil), ← (List.getElem?_eq_some_iff.mp hx).2]
        exact List.mem_cons_self
      have b3 : exS P (callN P n) (.seti (.v 1) (.v 2) (.v 4)) [.lst (L.map row), .ref S.length, .str x, .tup (stl bs), .lst (stl fs), v6, .unb] (S ++ [.dic ov]) = .ok (.nx [.lst (L.map row), .ref S.length, .str x, .tup (stl bs), .lst (stl fs), v6, .unb]) (S ++ [.dic (ov ++ [(.inr x, .lst (stl fs))])]) := by
        have st : setI (S ++ [Ob.dic ov]) (.ref S.length) (.str x) (.lst (stl fs)) = some (S ++ [.dic (ov ++ [(.inr x, .lst (stl fs))])]) := by
          unfold setI
          simp only [get_last]
          show (if ov.length < line then some ((S ++ [Ob.dic ov]).set S.length (.dic (storK ov (.inr x) _))) else none) = _
          rw [if_pos (by rw [lo]; exact Nat.lt_of_lt_of_le hil (Nat.le_trans l7 (by decide))), stor_new nk, set_last]
        rw [exS, ev, getV_some rfl (by simp), R.bind_ok, ev, getV_some rfl (by simp), R.bind_ok, ev, getV_some rfl (by simp), R.bind_ok, st]
      have tk : L.take (i + 1) = L.take i ++ [(x, bs)] := by rw [List.take_add_one, hp]; rfl
      refine ⟨[.lst (L.map row), .ref S.length, .str x, .tup (stl bs), v4, v5, .unb], _, _, rfl, by rw [exB_go b1, exB_go e3, exB_go b3]; rfl, _, rfl, ⟨?_, fun p hp => ?_⟩, _, _, _, _, rfl⟩
      · rw [tk, List.map_append, List.map_append, List.map_append, ho.ks]
        rfl
      · rcases List.mem_append.mp hp with hp | hp
        · exact ho.vs p hp
        · rw [List.mem_singleton.mp hp]
          exact ⟨fs, rfl, nf, sf⟩)
  have hm : (L.map row).length = L.length := List.length_map _
  rw [hm] at ho
  refine ⟨ov, ?_, ho⟩
  show (exB P (callN P n) [_, _, _] [.lst (L.map row), .unb, .unb, .unb, .unb, .unb, .unb] S).bind _ = _
  rw [exB_go a1, exB_go e2, exB, exS, ev, getV_some rfl (by simp), R.bind_ok, R.bind_ok, R.bind_ok]
  show R.ok _ (sweep S.length (.ref S.length) _) = _
  unfold sweep
  rw [if_neg (by simp [under])]
/-- a table of kinds stands at s -/
def KAt (S : Sto) (s : Nat) (ls : List Str) : Prop := ∃ (a b : Nat) (ov : List (Key × Wv)), S[s]? = some (kIns a b) ∧ S[b]? = some (.dic ov) ∧ ov.map (·.1) = ls.map Sum.inr
/-- what the setup needs of the program -/
structure HasS (P : Pg) : Prop where
  k : HasK P
  f25 : P.fn 25 = some fd_law_draw_v0
  f26 : P.fn 26 = some fd_law_random_names
  f27 : P.fn 27 = some fd_law_random_lines
  f28 : P.fn 28 = some fd_law_over
  f30 : P.fn 30 = some fd_law_setup
  c2 : P.cmet 4 2 = some 11
theorem run_setup (H : HasS P) (hs : Src l B S) (hB : B ≤ 10 ^ 9) (cl : Cl S) :
    ∃ (ls : List Str) (S' : Sto) (q s : Nat), callN P (n + 5) 30 [.ref l] S = .ok (.tup [.lst (stl ls), .ref q, .ref s]) S' ∧ Labels ls ∧ Src l (B + 100) S' ∧ Cl S' ∧ S.length ≤ s ∧ KAt S' s ls ∧ (∀ j, j < S.length → j ≠ l → S'[j]? = S[j]?) ∧ S.length ≤ S'.length := by
  rw [call_eq H.f30 rfl rfl (by decide)]
  obtain ⟨d, S1, e1, d0, d1, s1, w1⟩ := run_draw (n := n + 3) H.f25 hs (by omega) (m := 7) (by decide) (by decide)
  obtain ⟨m, hm⟩ : ∃ m : Nat, 1 + d = (m : Int) := ⟨(1 + d).toNat, by omega⟩
  obtain ⟨ls, S2, e2, hls, lm, s2, w2⟩ := run_names (n := n + 2) H.f26 H.f25 s1 (by omega) (m := m) (by omega) (by omega)
  have c2 : Cl S2 := (w1.trans w2).cl cl
  obtain ⟨L, S3, e3, hL, hLm, s3, w3⟩ := run_lines (n := n + 2) H.f27 H.f25 s2 (by omega) c2 hls
  have c3 : Cl S3 := w3.cl c2
  obtain ⟨ov, e4, ho⟩ := run_over (n := n + 3) (S := S3) H.f28 hL
  have c4 : Cl (S3 ++ [.dic ov]) := c3.push (ov_under ho)
  obtain ⟨kn, ov2, e5, hk, ho2⟩ := run_of H.k (k := n) c4 hL
  have l3 : S3.length = S.length := by rw [w3.len, w2.len, w1.len]
  have l4 : (S3 ++ [Ob.dic ov]).length = S.length + 1 := by simp [l3]
  have a1 : exS P (callN P (n + 4)) (.asg (.nm 1) (.fn 26 [.v 0, .bin .add (.k (.int 1)) (.fn 25 [.v 0, .k (.int 7)])])) [.ref l, .unb, .unb] S = .ok (.nx [.ref l, .lst (stl ls), .unb]) S2 := by
    rw [exS, ev, evs, ev, getV_some rfl (by simp), R.bind_ok, evs, ev, ev, R.bind_ok, ev, evs, ev, getV_some rfl (by simp), R.bind_ok, evs, ev, R.bind_ok, evs, R.bind_ok, R.bind_ok, R.bind_ok, e1, R.bind_ok, add_ok, R.of_some, R.bind_ok, evs, R.bind_ok, R.bind_ok, R.bind_ok, hm, e2, R.bind_ok]
    rfl
  have a2 : exS P (callN P (n + 4)) (.asg (.nm 2) (.fn 27 [.v 0, .v 1])) [.ref l, .lst (stl ls), .unb] S2 = .ok (.nx [.ref l, .lst (stl ls), .lst (L.map row)]) S3 := by
    rw [exS, ev, evs, ev, getV_some rfl (by simp), R.bind_ok, evs, ev, getV_some rfl (by simp), R.bind_ok, evs, R.bind_ok, R.bind_ok, R.bind_ok, e3, R.bind_ok]
    rfl
  have a3 : exS P (callN P (n + 4)) (.ret (.tup [.v 1, .fn 28 [.v 2], .cm 4 2 [.v 2]])) [.ref l, .lst (stl ls), .lst (L.map row)] S3 = .ok (.rt (.tup [.lst (stl ls), .ref S3.length, .ref (S3 ++ [Ob.dic ov]).length])) (S3 ++ [.dic ov] ++ kObs (S3 ++ [Ob.dic ov]).length kn ov2) := by
    rw [exS, ev, evs, ev, getV_some rfl (by simp), R.bind_ok, evs, ev, evs, ev, getV_some rfl (by simp), R.bind_ok, evs, R.bind_ok, R.bind_ok, e4, R.bind_ok, evs, ev, evs, ev, getV_some rfl (by simp), R.bind_ok, evs, R.bind_ok, R.bind_ok, H.c2]
    dsimp only
    rw [e5, R.bind_ok, evs, R.bind_ok, R.bind_ok, R.bind_ok, R.bind_ok, if_pos (show [Wv.lst (stl ls), .ref S3.length, .ref (S3 ++ [Ob.dic ov]).length].length ≤ line from (by decide : 3 ≤ line)), R.bind_ok]
  have c5 := kObs_cl c4 hk (fun k => ov_under (k := k) ho2)
  refine ⟨ls, _, S3.length, (S3 ++ [Ob.dic ov]).length, ?_, hls, ?_, c5, by omega, ⟨_, (S3 ++ [Ob.dic ov]).length + 3, ov2, get_at0, get_at 3, ?_⟩, fun j hj jl => ?_, ?_⟩
  · show (exB P (callN P (n + 4)) [_, _, _] [.ref l, .unb, .unb] S).bind _ = _
    rw [exB_go a1, exB_go a2, exB_rt a3, R.bind_ok]
    show R.ok _ (sweep S.length _ _) = _
    unfold sweep
    rw [if_neg]
    intro z
    have := z.1
    simp [under, unders, l3] at this
  · obtain ⟨a, b, q1, q2⟩ := s3
    have hl3 := (List.getElem?_eq_some_iff.mp q1).1
    have : Src l (B + 1 + 20 + 28) (S3 ++ [.dic ov] ++ kObs (S3 ++ [Ob.dic ov]).length kn ov2) := ⟨a, b, by rw [get_old (by rw [l4]; omega), get_old hl3]; exact q1, q2⟩
    exact this.mono (by omega)
  · rw [ho2.ks, List.take_length, hLm]
  · rw [get_old (by rw [l4]; omega), get_old (by omega), w3.get jl, w2.get jl, w1.get jl]
  · rw [List.length_append, l4]
    omega
end Pe

set_option Elab.async false
set_option linter.all false
set_option maxRecDepth 100000
set_option maxHeartbeats 4000000
/-! Runs: is_tree, two ways. -/
namespace Pe
open PySem L2
variable {P : Pg} {n l B : Nat} {S : Sto}
/-- "" or a name -/
def isM : Wv → Bool
  | .str x => decide (x.length ≤ 8) && x.cps.toList.all fun c => decide (low c)
  | _ => false
def isNum : Wv → Bool
  | .int i => decide (0 ≤ i)
  | _ => false
def inL (ls : List Str) : Wv → Bool
  | .str x => decide (x ∈ ls)
  | _ => false
mutual
def isT (ls : List Str) : Wv → Bool
  | .tup xs => isT2 ls xs
  | _ => false
def isT2 (ls : List Str) : List Wv → Bool
  | [] => false
  | a :: r => isT3 ls a r
def isT3 (ls : List Str) (a : Wv) : List Wv → Bool
  | [] => false
  | b :: r => r.isEmpty && isB ls a b
def isB (ls : List Str) (a : Wv) : Wv → Bool
  | .tup xs => isM a && !xs.isEmpty && isTs ls xs
  | b => inL ls a && isNum b
def isTs (ls : List Str) : List Wv → Bool
  | [] => true
  | x :: xs => isT ls x && isTs ls xs
end
theorem isTs_all (ls : List Str) : ∀ xs, isTs ls xs = xs.all (isT ls)
  | [] => rfl
  | x :: xs => by rw [isTs, isTs_all ls xs, List.all_cons]
theorem len_zero {x : Str} : (x == ("" : Str)) = decide (x.length = 0) := by
  have e : ("" : Str) = ⟨#[]⟩ := by decide +kernel
  rw [e]
  obtain ⟨c⟩ := x
  cases c with
  | mk xs =>
    cases xs with
    | nil => rfl
    | cons a r =>
      have h1 : (({ cps := { toList := a :: r } } : Str) == ⟨#[]⟩) = false := by
        rw [beq_eq_false_iff_ne]
        intro z
        have := congrArg (fun y : Str => y.cps.size) z
        simp at this
      rw [h1]
      simp [Str.length]
theorem isM_str {x : Str} : isM (.str x) = (decide (x = ("" : Str)) || nmB x) := by
  have e : decide (x = ("" : Str)) = decide (x.length = 0) := by
    rw [← len_zero]
    by_cases h : x = ("" : Str)
    · simp [h]
    · simp [h]
  rw [e]
  unfold isM nmB
  by_cases h : x.length = 0
  · have : x.cps.toList = [] := by
      apply List.eq_nil_of_length_eq_zero
      rw [Array.length_toList]
      exact h
    simp [h, this]
  · have : 1 ≤ x.length := by omega
    simp [h, this]
structure HasM0 (P : Pg) : Prop where
  s : HasS P
  f7 : P.fn 7 = some fd_is_message
  f18 : P.fn 18 = some fd_Kinds_has
  m9 : P.meth 4 9 = some 18
structure HasM (P : Pg) : Prop extends HasM0 P where
  f33 : P.fn 33 = some fd_law_is_message
structure HasT0 (P : Pg) : Prop where
  m : HasM0 P
  f5 : P.fn 5 = some fd_is_number
  f23 : P.fn 23 = some fd_is_tree
structure HasT (P : Pg) : Prop extends HasT0 P where
  f33 : P.fn 33 = some fd_law_is_message
  f34 : P.fn 34 = some fd_law_is_tree
theorem g1 {v : Wv} (h : gd v = true) {r : Ev} {S : Sto} : getV (v :: r) 0 S = .ok v S := getV_some rfl (gd_nu h)
theorem run_num (H : HasT0 P) {v : Wv} (hv : gd v = true) : callN P (n + 1) 5 [v] S = .ok (.bl (isNum v)) S := by
  rw [call_eq H.f5 rfl rfl (by decide)]
  have g0 : ∀ S : Sto, getV [v] 0 S = .ok v S := fun S => g1 hv
  cases v <;> first | (simp [gd] at hv; done) | (simp [fd_is_number, g0, isNum, isAny, isTy, sweep_same]; done) | skip
  rename_i i
  by_cases h : 0 ≤ i
  · simp [fd_is_number, g0, isNum, isAny, isTy, sweep_same, h]
  · simp [fd_is_number, g0, isNum, isAny, isTy, sweep_same, h]
theorem eq_str {x y : Str} : cmpW .eq S (.str x) (.str y) = some (decide (x = y)) := rfl
theorem run_msg (H : HasM0 P) {v : Wv} (hv : gd v = true) (hw : wei v ≤ 200000) : callN P (n + 2) 7 [v] S = .ok (.bl (isM v)) S := by
  rw [call_eq H.f7 rfl rfl (by decide)]
  have g0 : ∀ S : Sto, getV [v] 0 S = .ok v S := fun S => g1 hv
  have rn := run_isname (n := n) (S := S) H.s.k.f6 hv hw
  cases v <;> first | (simp [gd] at hv; done) | (simp [fd_is_message, g0, isM, isAny, isTy, sweep_same]; done) | skip
  rename_i x
  rw [isM_str]
  by_cases h : x = ("" : Str)
  · have h' : decide (x = ("" : Str)) = true := decide_eq_true h
    simp [fd_is_message, g0, isAny, isTy, sweep_same, eq_str, h']
  · have h' : decide (x = ("" : Str)) = false := decide_eq_false h
    have e : isN (.str x) = nmB x := rfl
    rw [e] at rn
    cases hn : nmB x <;> rw [hn] at rn <;> simp [fd_is_message, g0, isAny, isTy, sweep_same, eq_str, h', rn]
theorem run_msg2 (H : HasM P) {v : Wv} (hv : gd v = true) (hw : wei v ≤ 200000) : callN P (n + 1) 33 [v] S = .ok (.bl (isM v)) S := by
  rw [call_eq H.f33 rfl rfl (by decide)]
  have g0 : ∀ S : Sto, getV [v, .unb] 0 S = .ok v S := fun S => g1 hv
  cases v <;> first | (simp [gd] at hv; done) | (simp [fd_law_is_message, g0, isM, isAny, isTy, sweep_same]; done) | skip
  rename_i x
  have hx : x.length ≤ 200000 := hw
  have l1 := len_ok (S := S) (x := x) (by omega)
  by_cases h : x.length ≤ 8
  · have h1 : ¬ (8 : Int) < x.length := by omega
    have e := ev_letters (P := P) (F := callN P n) (S := S) (r := [.str x, .unb]) (own := 1) rfl (by omega) (by simp) (by decide)
    have p1 : exS P (callN P n) (.ite (.or [.not (.isi (.v 0) [.str]), .cmp .gt (.p1 .len (.v 0)) (.k (.int 8))]) [.ret (.k (.bl false))] []) [.str x, .unb] S = .ok (.nx [.str x, .unb]) S := by
      simp [g0, isAny, isTy, l1, h1]
    show (exB P (callN P n) [_, _] [.str x, .unb] S).bind _ = _
    rw [exB_go p1, exB, exS]
    show (((ev P (callN P n) (.p1 .all (.lc false [1] (.nm 1) (.any (.v 0)) [] (.cmp .isin (.v 1) (.k (.str LET))))) [.str x, .unb] S).bind _).bind _).bind _ = _
    rw [e]
    simp [isM, h, sweep_same]
  · have h1 : (8 : Int) < x.length := by omega
    simp [fd_law_is_message, g0, isAny, isTy, l1, h1, isM, h, sweep_same]
theorem run_has (H : HasM0 P) {v : Wv} (hv : gd v = true) {s : Nat} {ls : List Str} (hk : KAt S s ls) : callN P (n + 1) 18 [.ref s, v] S = .ok (.bl (inL ls v)) S := by
  obtain ⟨a, b, ov, h1, h2, h3⟩ := hk
  rw [call_eq H.f18 rfl rfl (by decide)]
  have g0 : ∀ S : Sto, getV [.ref s, v] 1 S = .ok v S := fun S => getV_some rfl (gd_nu hv)
  have gs : ∀ S : Sto, getV [.ref s, v] 0 S = .ok (.ref s) S := fun S => getV_some rfl (by simp)
  cases v <;> first | (simp [gd] at hv; done) | (simp [fd_Kinds_has, g0, inL, isAny, isTy, sweep_same]; done) | skip
  rename_i x
  have hi : inW S (.str x) (.ref b) = some (inL ls (.str x)) := by
    unfold inW
    simp only [h2]
    show some (lookK ov (.inr x)).isSome = _
    congr 1
    unfold inL
    rw [Bool.eq_iff_iff, look_iff, h3, decide_eq_true_eq]
    simp
  generalize inL ls (.str x) = q at hi
  cases q <;> simp [fd_Kinds_has, g0, gs, isAny, isTy, sweep_same, att19 H.s.k h1, cmpW, hi]
theorem gd2 {a b : Wv} (h : gd (.tup [a, b]) = true) : gd a = true ∧ gd b = true := by
  simp only [gd, gds, Bool.and_eq_true, Bool.and_true] at h
  exact ⟨h.1, h.2⟩
def isTup : Wv → Bool
  | .tup _ => true
  | _ => false
theorem isi_tup {v : Wv} (h : gd v = true) : isAny S v [.tuple] = some (isTup v) := by
  cases v <;> first | rfl | simp [gd] at h
theorem idx0 {a b : Wv} {r : List Wv} : idxW S (.tup (a :: b :: r)) (.int 0) = some a := idx_tup (j := 0) rfl rfl
theorem idx1 {a b : Wv} {r : List Wv} : idxW S (.tup (a :: b :: r)) (.int 1) = some b := idx_tup (j := 1) rfl rfl
theorem isB_no {ls : List Str} {a b : Wv} (h : isTup b = false) : isB ls a b = (inL ls a && isNum b) := by
  cases b <;> first | rfl | cases h
theorem run_istree (H : HasT0 P) {s : Nat} {ls : List Str} (hk : KAt S s ls) : ∀ (m k : Nat) (v : Wv), gd v = true → wei v ≤ 200000 → dep v ≤ m → m + 3 ≤ k → callN P k 23 [.ref s, v] S = .ok (.bl (isT ls v)) S := by
  intro m
  induction m with
  | zero =>
    intro k v hv hw hd hm
    obtain ⟨n, rfl⟩ : ∃ n, k = n + 3 := ⟨k - 3, by omega⟩
    rw [call_eq H.f23 rfl rfl (by decide)]
    have g0 : ∀ S : Sto, getV [.ref s, v, .unb] 1 S = .ok v S := fun S => getV_some rfl (gd_nu hv)
    cases v <;> first | (simp [gd] at hv; done) | (simp [fd_is_tree, g0, isT, isAny, isTy, sweep_same]; done) | (simp [dep] at hd; done)
  | succ m ih =>
    intro k v hv hw hd hm
    obtain ⟨n, rfl⟩ : ∃ n, k = n + 4 := ⟨k - 4, by omega⟩
    rw [call_eq H.f23 rfl rfl (by decide)]
    have g0 : ∀ S : Sto, getV [.ref s, v, .unb] 1 S = .ok v S := fun S => getV_some rfl (gd_nu hv)
    have gs : ∀ S : Sto, getV [.ref s, v, .unb] 0 S = .ok (.ref s) S := fun S => getV_some rfl (by simp)
    cases v <;> first | (simp [gd] at hv; done) | (simp [fd_is_tree, g0, isT, isAny, isTy, sweep_same]; done) | skip
    rename_i xs
    match xs, hv, hw, hd, g0, gs with
    | [], hv, hw, hd, g0, gs => simp [fd_is_tree, g0, isT, isT2, isAny, isTy, pr1, sweep_same]
    | [a], hv, hw, hd, g0, gs => simp [fd_is_tree, g0, isT, isT2, isT3, isAny, isTy, pr1, sweep_same]
    | a :: b :: c :: r, hv, hw, hd, g0, gs =>
      have h2 : ¬ ((r.length : Int) + 1 + 1 + 1 = 2) := by omega
      simp [fd_is_tree, g0, isT, isT2, isT3, isAny, isTy, pr1, h2, sweep_same]
    | [a, b], hv, hw, hd, g0, gs =>
      obtain ⟨ha, hb⟩ := gd2 hv
      have wa : wei a ≤ 200000 := by simp only [wei, weis] at hw; omega
      have wb : wei b ≤ 200000 := by simp only [wei, weis] at hw; omega
      have p1 : exS P (callN P (n + 3)) (.ite (.or [.not (.isi (.v 1) [.tuple]), .cmp .ne (.p1 .len (.v 1)) (.k (.int 2))]) [.ret (.k (.bl false))] []) [.ref s, .tup [a, b], .unb] S = .ok (.nx [.ref s, .tup [a, b], .unb]) S := by
        simp [g0, isAny, isTy, pr1]
      show (exB P (callN P (n + 3)) [_, _, _] [.ref s, .tup [a, b], .unb] S).bind _ = _
      rw [exB_go p1]
      have et : ev P (callN P (n + 3)) (.isi (.idx (.v 1) (.k (.int 1))) [.tuple]) [.ref s, .tup [a, b], .unb] S = .ok (.bl (isTup b)) S := by
        rw [ev, ev, ev, g0, R.bind_ok, ev, R.bind_ok, idx1, R.of_some, R.bind_ok, isi_tup hb]
        rfl
      cases hT : isTup b with
      | true =>
        obtain ⟨xs, rfl⟩ : ∃ xs, b = .tup xs := by
          cases b <;> first | exact ⟨_, rfl⟩ | cases hT
        have gx : gds xs = true := by simpa [gd] using hb
        have e7 := run_msg (n := n + 1) (S := S) H.m ha wa
        have en := ne_nil (S := S) gx
        have ec : ev P (callN P (n + 3)) (.lc false [2] (.nm 2) (.any (.idx (.v 1) (.k (.int 1)))) [] (.fn 23 [.v 0, .v 2])) [.ref s, .tup [a, .tup xs], .unb] S = .ok (.lst (xs.map fun x => .bl (isT ls x))) S := by
          have hi : evI P (callN P (n + 3)) (.any (.idx (.v 1) (.k (.int 1)))) [.ref s, .tup [a, .tup xs], .unb] S = .ok ⟨xs, none⟩ S := by
            rw [evI, ev, ev, g0, R.bind_ok, ev, R.bind_ok, idx1, R.of_some, R.bind_ok]
            rfl
          have lx : xs.length ≤ line := by
            have := len_weis xs
            have w2 : weis xs ≤ 200000 := wb
            exact Nat.le_trans (Nat.le_trans this w2) (by decide)
          have e := lc_map (bx := false) (own := [2]) (g := .nm 2) (cond := []) (e := .fn 23 [.v 0, .v 2]) hi lx (fun x => .bl (isT ls x)) rfl (fun x hx => by
            have gx' := gds_iff.mp gx x hx
            have wx : wei x + 1 ≤ weis xs := weis_mem hx
            have dx : dep x ≤ m := by
              simp only [dep, deps] at hd
              have := deps_le (n := deps xs).mp (Nat.le_refl _) x hx
              omega
            have e := ih (n + 3) x gx' (by have w2 : weis xs ≤ 200000 := wb; omega) dx (by omega)
            refine ⟨[.ref s, .tup [a, .tup xs], x], rfl, rfl, ?_⟩
            rw [ev, evs, ev, getV_some rfl (by simp), R.bind_ok, evs, ev, getV_some rfl (gd_nu gx'), R.bind_ok, evs, R.bind_ok, R.bind_ok, R.bind_ok, e])
          rw [e, newL_f (by rw [List.length_map]; exact lx)]
        have ea : ev P (callN P (n + 3)) (.p1 .all (.lc false [2] (.nm 2) (.any (.idx (.v 1) (.k (.int 1)))) [] (.fn 23 [.v 0, .v 2]))) [.ref s, .tup [a, .tup xs], .unb] S = .ok (.bl (isTs ls xs)) S := by
          rw [ev, ec, R.bind_ok, all_ok, isTs_all]
          rfl
        have e1 : ev P (callN P (n + 3)) (.fn 7 [.idx (.v 1) (.k (.int 0))]) [.ref s, .tup [a, .tup xs], .unb] S = .ok (.bl (isM a)) S := by
          rw [ev, evs, ev, ev, g0, R.bind_ok, ev, R.bind_ok, idx0, R.of_some, R.bind_ok, evs, R.bind_ok, R.bind_ok, e7]
        have e2 : ev P (callN P (n + 3)) (.cmp .ne (.idx (.v 1) (.k (.int 1))) (.tup [])) [.ref s, .tup [a, .tup xs], .unb] S = .ok (.bl (!xs.isEmpty)) S := by
          rw [ev, ev, ev, g0, R.bind_ok, ev, R.bind_ok, idx1, R.of_some, R.bind_ok, ev, evs, R.bind_ok, if_pos (show ([] : List Wv).length ≤ line from Nat.zero_le _), R.bind_ok, en]
          rfl
        have eb : ev P (callN P (n + 3)) (.and [.fn 7 [.idx (.v 1) (.k (.int 0))], .cmp .ne (.idx (.v 1) (.k (.int 1))) (.tup []), .p1 .all (.lc false [2] (.nm 2) (.any (.idx (.v 1) (.k (.int 1)))) [] (.fn 23 [.v 0, .v 2]))]) [.ref s, .tup [a, .tup xs], .unb] S = .ok (.bl (isM a && !xs.isEmpty && isTs ls xs)) S := by
          rw [ev, evAll, e1, R.bind_ok, asBool, R.bind_ok]
          cases isM a
          · rfl
          · rw [if_pos rfl, evAll, e2, R.bind_ok, asBool, R.bind_ok]
            cases xs.isEmpty
            · show (if true = true then _ else _ : R Bool).bind _ = _
              rw [if_pos rfl, evAll, ea, R.bind_ok, asBool, R.bind_ok]
              cases isTs ls xs <;> rfl
            · rfl
        rw [exB, exS, et, R.bind_ok, asBool, R.bind_ok]
        show (((if true = true then exB P (callN P (n + 3)) [.ret _] _ _ else _).bind _).bind _) = _
        rw [if_pos rfl, exB, exS, eb]
        simp [sweep_same, isT, isT2, isT3, isB]
      | false =>
        have e9 := run_has (n := n + 2) (S := S) H.m ha hk
        have e5 := run_num (n := n + 2) (S := S) H hb
        have mm : methOf P S (.ref s) 9 = some 18 := by
          obtain ⟨q1, q2, q3, q4, _⟩ := hk
          unfold methOf
          simp only [q4]
          exact H.m.m9
        rw [exB, exS, et, R.bind_ok, asBool, R.bind_ok, hT]
        show (((if false = true then _ else exB P (callN P (n + 3)) [] _ _).bind _).bind _) = _
        rw [if_neg Bool.false_ne_true, exB, R.bind_ok]
        dsimp only
        have e1 : ev P (callN P (n + 3)) (.mth 9 (.v 0) [.idx (.v 1) (.k (.int 0))]) [.ref s, .tup [a, b], .unb] S = .ok (.bl (inL ls a)) S := by
          rw [ev, ev, gs, R.bind_ok, mm]
          dsimp only
          rw [evs, ev, ev, g0, R.bind_ok, ev, R.bind_ok, idx0, R.of_some, R.bind_ok, evs, R.bind_ok, R.bind_ok, e9]
        have e2 : ev P (callN P (n + 3)) (.fn 5 [.idx (.v 1) (.k (.int 1))]) [.ref s, .tup [a, b], .unb] S = .ok (.bl (isNum b)) S := by
          rw [ev, evs, ev, ev, g0, R.bind_ok, ev, R.bind_ok, idx1, R.of_some, R.bind_ok, evs, R.bind_ok, R.bind_ok, e5]
        rw [exB, exS, ev, evAll, e1, R.bind_ok, asBool, R.bind_ok]
        have er : isT ls (.tup [a, b]) = (inL ls a && isNum b) := by
          rw [isT, isT2, isT3, isB_no hT]
          rfl
        rw [er]
        cases inL ls a
        · simp [sweep_same]
        · rw [if_pos rfl, evAll, e2, R.bind_ok, asBool, R.bind_ok]
          cases isNum b <;> simp [sweep_same]
end Pe

set_option Elab.async false
set_option linter.all false
set_option maxRecDepth 100000
set_option maxHeartbeats 4000000
/-! Runs: the law's own is_tree. -/
namespace Pe
open PySem L2
variable {P : Pg} {n l B : Nat} {S : Sto}
def isS : Wv → Bool
  | .str _ => true
  | _ => false
def isI : Wv → Bool
  | .int _ => true
  | _ => false
theorem isi_s {v : Wv} (h : gd v = true) : isAny S v [.str] = some (isS v) := by
  cases v <;> first | rfl | simp [gd] at h
theorem isM_no {a : Wv} (h : isS a = false) : isM a = false := by
  cases a <;> first | rfl | cases h
theorem inL_no {ls : List Str} {a : Wv} (h : isS a = false) : inL ls a = false := by
  cases a <;> first | rfl | cases h
theorem isNum_no {a : Wv} (h : isI a = false) : isNum a = false := by
  cases a <;> first | rfl | cases h
theorem isT_2 {ls : List Str} {a b : Wv} : isT ls (.tup [a, b]) = isB ls a b := by
  rw [isT, isT2, isT3]
  rfl
theorem isB_s {ls : List Str} {a b : Wv} (h : isS a = false) : isB ls a b = false := by
  cases hT : isTup b with
  | true =>
    obtain ⟨xs, rfl⟩ : ∃ xs, b = .tup xs := by
      cases b <;> first | exact ⟨_, rfl⟩ | cases hT
    rw [isB, isM_no h]
    rfl
  | false => rw [isB_no hT, inL_no h]; rfl
theorem run_lawtree (H : HasT P) {ls : List Str} : ∀ (m k : Nat) (v : Wv), gd v = true → wei v ≤ 200000 → dep v ≤ m → m + 3 ≤ k → callN P k 34 [.lst (stl ls), v] S = .ok (.bl (isT ls v)) S := by
  intro m
  induction m with
  | zero =>
    intro k v hv hw hd hm
    obtain ⟨n, rfl⟩ : ∃ n, k = n + 3 := ⟨k - 3, by omega⟩
    rw [call_eq H.f34 rfl rfl (by decide)]
    have g0 : ∀ S : Sto, getV [.lst (stl ls), v, .unb] 1 S = .ok v S := fun S => getV_some rfl (gd_nu hv)
    cases v <;> first | (simp [gd] at hv; done) | (simp [fd_law_is_tree, g0, isT, isAny, isTy, sweep_same]; done) | (simp [dep] at hd; done)
  | succ m ih =>
    intro k v hv hw hd hm
    obtain ⟨n, rfl⟩ : ∃ n, k = n + 4 := ⟨k - 4, by omega⟩
    rw [call_eq H.f34 rfl rfl (by decide)]
    have g0 : ∀ S : Sto, getV [.lst (stl ls), v, .unb] 1 S = .ok v S := fun S => getV_some rfl (gd_nu hv)
    have gs : ∀ S : Sto, getV [.lst (stl ls), v, .unb] 0 S = .ok (.lst (stl ls)) S := fun S => getV_some rfl (by simp)
    cases v <;> first | (simp [gd] at hv; done) | (simp [fd_law_is_tree, g0, isT, isAny, isTy, sweep_same]; done) | skip
    rename_i xs
    match xs, hv, hw, hd, g0, gs with
    | [], hv, hw, hd, g0, gs => simp [fd_law_is_tree, g0, isT, isT2, isAny, isTy, pr1, sweep_same]
    | [a], hv, hw, hd, g0, gs => simp [fd_law_is_tree, g0, isT, isT2, isT3, isAny, isTy, pr1, sweep_same]
    | a :: b :: c :: r, hv, hw, hd, g0, gs =>
      have h2 : ¬ ((r.length : Int) + 1 + 1 + 1 = 2) := by omega
      simp [fd_law_is_tree, g0, isT, isT2, isT3, isAny, isTy, pr1, h2, sweep_same]
    | [a, b], hv, hw, hd, g0, gs =>
      obtain ⟨ha, hb⟩ := gd2 hv
      have wa : wei a ≤ 200000 := by simp only [wei, weis] at hw; omega
      have wb : wei b ≤ 200000 := by simp only [wei, weis] at hw; omega
      rw [isT_2]
      have ia : ev P (callN P (n + 3)) (.isi (.idx (.v 1) (.k (.int 0))) [.str]) [.lst (stl ls), .tup [a, b], .unb] S = .ok (.bl (isS a)) S := by
        rw [ev, ev, ev, g0, R.bind_ok, ev, R.bind_ok, idx0, R.of_some, R.bind_ok, isi_s ha]
        rfl
      have i1 : ev P (callN P (n + 3)) (.isi (.v 1) [.tuple]) [.lst (stl ls), .tup [a, b], .unb] S = .ok (.bl true) S := by
        rw [ev, ev, g0, R.bind_ok]
        rfl
      have i2 : ev P (callN P (n + 3)) (.cmp .ne (.p1 .len (.v 1)) (.k (.int 2))) [.lst (stl ls), .tup [a, b], .unb] S = .ok (.bl false) S := by
        rw [ev, ev, ev, g0, R.bind_ok]
        rfl
      cases hs : isS a with
      | false =>
        rw [hs] at ia
        have p1 : exS P (callN P (n + 3)) (.ite (.or [.not (.isi (.v 1) [.tuple]), .cmp .ne (.p1 .len (.v 1)) (.k (.int 2)), .not (.isi (.idx (.v 1) (.k (.int 0))) [.str])]) [.ret (.k (.bl false))] []) [.lst (stl ls), .tup [a, b], .unb] S = .ok (.rt (.bl false)) S := by
          exact (if_t (ev_or' ((evAny_f (ev_not' i1)).trans ((evAny_f i2).trans (evAny_t (ev_not' ia)))))).trans (exB_rt (ret_ok (by rw [ev])))
        show (exB P (callN P (n + 3)) [_, _, _, _] [.lst (stl ls), .tup [a, b], .unb] S).bind _ = _
        rw [exB_rt p1, isB_s hs]
        simp [sweep_same]
      | true =>
        obtain ⟨x, rfl⟩ : ∃ x, a = .str x := by
          cases a <;> first | exact ⟨_, rfl⟩ | cases hs
        rw [hs] at ia
        have p1 : exS P (callN P (n + 3)) (.ite (.or [.not (.isi (.v 1) [.tuple]), .cmp .ne (.p1 .len (.v 1)) (.k (.int 2)), .not (.isi (.idx (.v 1) (.k (.int 0))) [.str])]) [.ret (.k (.bl false))] []) [.lst (stl ls), .tup [.str x, b], .unb] S = .ok (.nx [.lst (stl ls), .tup [.str x, b], .unb]) S := by
          exact (if_f (ev_or' ((evAny_f (ev_not' i1)).trans ((evAny_f i2).trans ((evAny_f (ev_not' ia)).trans rfl))))).trans exB_nil
        have et : ev P (callN P (n + 3)) (.isi (.idx (.v 1) (.k (.int 1))) [.tuple]) [.lst (stl ls), .tup [.str x, b], .unb] S = .ok (.bl (isTup b)) S := by
          rw [ev, ev, ev, g0, R.bind_ok, ev, R.bind_ok, idx1, R.of_some, R.bind_ok, isi_tup hb]
          rfl
        show (exB P (callN P (n + 3)) [_, _, _, _] [.lst (stl ls), .tup [.str x, b], .unb] S).bind _ = _
        rw [exB_go p1]
        cases hT : isTup b with
        | true =>
          obtain ⟨xs, rfl⟩ : ∃ xs, b = .tup xs := by
            cases b <;> first | exact ⟨_, rfl⟩ | cases hT
          have gx : gds xs = true := by simpa [gd] using hb
          have e7 := run_msg2 (n := n + 2) (S := S) ⟨H.m, H.f33⟩ ha wa
          have en := eq_nil (S := S) gx
          have ec : ev P (callN P (n + 3)) (.lc false [2] (.nm 2) (.any (.idx (.v 1) (.k (.int 1)))) [] (.fn 34 [.v 0, .v 2])) [.lst (stl ls), .tup [.str x, .tup xs], .unb] S = .ok (.lst (xs.map fun x => .bl (isT ls x))) S := by
            have hi : evI P (callN P (n + 3)) (.any (.idx (.v 1) (.k (.int 1)))) [.lst (stl ls), .tup [.str x, .tup xs], .unb] S = .ok ⟨xs, none⟩ S := by
              rw [evI, ev, ev, g0, R.bind_ok, ev, R.bind_ok, idx1, R.of_some, R.bind_ok]
              rfl
            have w2 : weis xs ≤ 200000 := wb
            have lx : xs.length ≤ line := Nat.le_trans (Nat.le_trans (len_weis xs) w2) (by decide)
            have e := lc_map (bx := false) (own := [2]) (g := .nm 2) (cond := []) (e := .fn 34 [.v 0, .v 2]) hi lx (fun x => .bl (isT ls x)) rfl (fun y hy => by
              have gx' := gds_iff.mp gx y hy
              have wx : wei y + 1 ≤ weis xs := weis_mem hy
              have dx : dep y ≤ m := by
                simp only [dep, deps] at hd
                have := deps_le (n := deps xs).mp (Nat.le_refl _) y hy
                omega
              have e := ih (n + 3) y gx' (by omega) dx (by omega)
              refine ⟨[.lst (stl ls), .tup [.str x, .tup xs], y], rfl, rfl, ?_⟩
              rw [ev, evs, ev, getV_some rfl (by simp), R.bind_ok, evs, ev, getV_some rfl (gd_nu gx'), R.bind_ok, evs, R.bind_ok, R.bind_ok, R.bind_ok, e])
            rw [e, newL_f (by rw [List.length_map]; exact lx)]
          have ea : ev P (callN P (n + 3)) (.p1 .all (.lc false [2] (.nm 2) (.any (.idx (.v 1) (.k (.int 1)))) [] (.fn 34 [.v 0, .v 2]))) [.lst (stl ls), .tup [.str x, .tup xs], .unb] S = .ok (.bl (isTs ls xs)) S := by
            rw [ev, ec, R.bind_ok, all_ok, isTs_all]
            rfl
          have e1 : ev P (callN P (n + 3)) (.fn 33 [.idx (.v 1) (.k (.int 0))]) [.lst (stl ls), .tup [.str x, .tup xs], .unb] S = .ok (.bl (isM (.str x))) S := by
            rw [ev, evs, ev, ev, g0, R.bind_ok, ev, R.bind_ok, idx0, R.of_some, R.bind_ok, evs, R.bind_ok, R.bind_ok, e7]
          have e2 : ev P (callN P (n + 3)) (.cmp .eq (.idx (.v 1) (.k (.int 1))) (.tup [])) [.lst (stl ls), .tup [.str x, .tup xs], .unb] S = .ok (.bl xs.isEmpty) S := by
            rw [ev, ev, ev, g0, R.bind_ok, ev, R.bind_ok, idx1, R.of_some, R.bind_ok, ev, evs, R.bind_ok, if_pos (show ([] : List Wv).length ≤ line from Nat.zero_le _), R.bind_ok, en]
            rfl
          rw [exB, exS, et, R.bind_ok, hT, asBool, R.bind_ok]
          show (((if true = true then exB P (callN P (n + 3)) [_, _] _ _ else _).bind _).bind _) = _
          rw [if_pos rfl, isB]
          cases he : xs.isEmpty with
          | true =>
            have q : exS P (callN P (n + 3)) (.ite (.or [.cmp .eq (.idx (.v 1) (.k (.int 1))) (.tup []), .not (.fn 33 [.idx (.v 1) (.k (.int 0))])]) [.ret (.k (.bl false))] []) [.lst (stl ls), .tup [.str x, .tup xs], .unb] S = .ok (.rt (.bl false)) S := by
              rw [exS, ev, evAny, e2, R.bind_ok, asBool, R.bind_ok, he]
              simp
            rw [exB_rt q]
            simp [sweep_same]
          | false =>
            cases hM : isM (.str x) with
            | false =>
              have q : exS P (callN P (n + 3)) (.ite (.or [.cmp .eq (.idx (.v 1) (.k (.int 1))) (.tup []), .not (.fn 33 [.idx (.v 1) (.k (.int 0))])]) [.ret (.k (.bl false))] []) [.lst (stl ls), .tup [.str x, .tup xs], .unb] S = .ok (.rt (.bl false)) S := by
                rw [exS, ev, evAny, e2, R.bind_ok, asBool, R.bind_ok, he, if_neg Bool.false_ne_true, evAny, ev, e1, R.bind_ok, hM, asBool, R.bind_ok, R.bind_ok]
                simp
              rw [exB_rt q]
              simp [sweep_same]
            | true =>
              have q : exS P (callN P (n + 3)) (.ite (.or [.cmp .eq (.idx (.v 1) (.k (.int 1))) (.tup []), .not (.fn 33 [.idx (.v 1) (.k (.int 0))])]) [.ret (.k (.bl false))] []) [.lst (stl ls), .tup [.str x, .tup xs], .unb] S = .ok (.nx [.lst (stl ls), .tup [.str x, .tup xs], .unb]) S := by
                rw [exS, ev, evAny, e2, R.bind_ok, asBool, R.bind_ok, he, if_neg Bool.false_ne_true, evAny, ev, e1, R.bind_ok, hM, asBool, R.bind_ok, R.bind_ok]
                simp
              rw [exB_go q, exB, exS, ea]
              simp [sweep_same]
        | false =>
          rw [exB, exS, et, R.bind_ok, hT, asBool, R.bind_ok]
          show (((if false = true then _ else exB P (callN P (n + 3)) [] _ _).bind _).bind _) = _
          rw [if_neg Bool.false_ne_true, exB, R.bind_ok, isB_no hT]
          dsimp only
          cases hI : isI b with
          | false =>
            have q : exS P (callN P (n + 3)) (.ite (.or [.not (.isi (.idx (.v 1) (.k (.int 1))) [.int]), .isi (.idx (.v 1) (.k (.int 1))) [.bool]]) [.ret (.k (.bl false))] []) [.lst (stl ls), .tup [.str x, b], .unb] S = .ok (.rt (.bl false)) S := by
              have e1 : ∀ T : Ty, ev P (callN P (n + 3)) (.isi (.idx (.v 1) (.k (.int 1))) [T]) [.lst (stl ls), .tup [.str x, b], .unb] S = R.of ((isAny S b [T]).map Wv.bl) S := fun T => by
                rw [ev, ev, ev, g0, R.bind_ok, ev, R.bind_ok, idx1, R.of_some, R.bind_ok]
              have rf : exB P (callN P (n + 3)) [.ret (.k (.bl false))] [.lst (stl ls), .tup [.str x, b], .unb] S = .ok (.rt (.bl false)) S := exB_rt (ret_ok (by rw [ev]))
              cases b with
              | bl q =>
                exact (if_t (ev_or' ((evAny_f (ev_not' (b := true) (e1 .int))).trans (evAny_t (e1 .bool))))).trans rf
              | _ => first
                | (simp [gd] at hb; done)
                | (cases hI; done)
                | (cases hT; done)
                | exact (if_t (ev_or' (evAny_t (ev_not' (b := false) (e1 .int))))).trans rf
            rw [exB_rt q, isNum_no hI, Bool.and_false]
            simp [sweep_same]
          | true =>
            obtain ⟨i, rfl⟩ : ∃ i, b = .int i := by
              cases b <;> first | exact ⟨_, rfl⟩ | cases hI
            have e1 : ∀ T : Ty, ev P (callN P (n + 3)) (.isi (.idx (.v 1) (.k (.int 1))) [T]) [.lst (stl ls), .tup [.str x, .int i], .unb] S = R.of ((isAny S (.int i) [T]).map Wv.bl) S := fun T => by
              rw [ev, ev, ev, g0, R.bind_ok, ev, R.bind_ok, idx1, R.of_some, R.bind_ok]
            have q : exS P (callN P (n + 3)) (.ite (.or [.not (.isi (.idx (.v 1) (.k (.int 1))) [.int]), .isi (.idx (.v 1) (.k (.int 1))) [.bool]]) [.ret (.k (.bl false))] []) [.lst (stl ls), .tup [.str x, .int i], .unb] S = .ok (.nx [.lst (stl ls), .tup [.str x, .int i], .unb]) S := by
              exact (if_f (ev_or' ((evAny_f (ev_not' (b := true) (e1 .int))).trans ((evAny_f (e1 .bool)).trans rfl)))).trans exB_nil
            rw [exB_go q]
            have e2 : ev P (callN P (n + 3)) (.cmp .isin (.idx (.v 1) (.k (.int 0))) (.v 0)) [.lst (stl ls), .tup [.str x, .int i], .unb] S = .ok (.bl (inL ls (.str x))) S := by
              rw [ev, ev, ev, g0, R.bind_ok, ev, R.bind_ok, idx0, R.of_some, R.bind_ok, ev, gs, R.bind_ok]
              show R.of ((inW S (.str x) (.lst (stl ls))).map Wv.bl) S = _
              rw [in_lst]
              rfl
            have e3 : ev P (callN P (n + 3)) (.cmp .ge (.idx (.v 1) (.k (.int 1))) (.k (.int 0))) [.lst (stl ls), .tup [.str x, .int i], .unb] S = .ok (.bl (isNum (.int i))) S := by
              rw [ev, ev, ev, g0, R.bind_ok, ev, R.bind_ok, idx1, R.of_some, R.bind_ok, ev, R.bind_ok]
              rfl
            rw [exB, exS, ev, evAll, e2, R.bind_ok, asBool, R.bind_ok]
            cases inL ls (.str x)
            · simp [sweep_same]
            · rw [if_pos rfl, evAll, e3, R.bind_ok, asBool, R.bind_ok]
              cases isNum (.int i) <;> simp [sweep_same]
end Pe

set_option Elab.async false
set_option linter.all false
set_option maxRecDepth 100000
set_option maxHeartbeats 4000000
/-! Runs: a random tree, some value. -/
namespace Pe
open PySem L2
variable {P : Pg} {n l B : Nat} {S : Sto}
/-! ### some value -/
def anyA (q : Int) : List Wv := [.non, .bl true, .bl false, .int 0, .int 1, .int (-1), .int 7, .int q, .str "", .str "a", .str "A", .str "abcdefghi", .str "zz", .str "*", .tup [], .lst [], .tup [.str "a"], .tup [.str "a", .int 1]]
def anyB : List Wv := [.lst [.str "a", .int 1], .tup [.str "a", .int (-1)], .tup [.str "a", .bl true], .tup [.str "a", .tup []], .tup [.str "", .tup []], .tup [.str "", .tup [.tup [.str "a", .int 1]]], .tup [.tup [], .int 1], .lst [.tup [.str "a", .int 1]]]
theorem any_all : ∀ x ∈ anyA (10 ^ 40) ++ anyB, gd x = true ∧ dep x ≤ 4 ∧ wei x ≤ 400 := by
  have h : (anyA (10 ^ 40) ++ anyB).all (fun x => gd x && decide (dep x ≤ 4) && decide (wei x ≤ 400)) = true := by decide +kernel
  intro x hx
  have := List.all_eq_true.mp h x hx
  simp only [Bool.and_eq_true, decide_eq_true_eq] at this
  exact ⟨this.1.1, this.1.2, this.2⟩
theorem run_any (h : P.fn 31 = some fd_law_any_v0) (hd : P.fn 25 = some fd_law_draw_v0) (hs : Src l B S) (hB : B ≤ 10 ^ 10) :
    ∃ (v : Wv) (S' : Sto), callN P (n + 2) 31 [.ref l] S = .ok v S' ∧ gd v = true ∧ dep v ≤ 4 ∧ wei v ≤ 400 ∧ Src l (B + 1) S' ∧ Drw l S S' := by
  rw [call_eq h rfl rfl (by decide)]
  obtain ⟨d, S1, e1, d0, d1, s1, w1⟩ := run_draw (n := n) hd hs (by omega) (m := 26) (by decide) (by decide)
  obtain ⟨q, hq⟩ : ∃ q : Int, q = 10 ^ 40 := ⟨_, rfl⟩
  have p40 : ∀ S : Sto, binW .pow S (.int 10) (.int 40) = some (.int q) := fun S => by rw [hq]; exact pow_ok (by decide) (by decide) (by decide)
  have a1 : exS P (callN P (n + 1)) (.asg (.nm 1) (.dsp false [.k (.non), .k (.bl true), .k (.bl false), .k (.int 0), .k (.int 1), .neg (.k (.int 1)), .k (.int 7), .bin .pow (.k (.int 10)) (.k (.int 40)), .k (.str ""), .k (.str "a"), .k (.str "A"), .k (.str "abcdefghi"), .k (.str "zz"), .k (.str "*"), .tup [], .dsp false [], .tup [.k (.str "a")], .tup [.k (.str "a"), .k (.int 1)]])) [.ref l, .unb] S = .ok (.nx [.ref l, .lst (anyA q)]) S := by
    simp [p40, newL, anyA, show 18 ≤ line by decide, show 2 ≤ line by decide, show 1 ≤ line by decide]
  have hAB : (anyA q).length + anyB.length ≤ line := by
    show 18 + 8 ≤ line
    decide
  have bo : binW .add S (.lst (anyA q)) (.lst anyB) = some (.lst (anyA q ++ anyB)) := by
    show (if (anyA q).length + anyB.length ≤ line then some (Wv.lst (anyA q ++ anyB)) else none) = _
    rw [if_pos hAB]
  have a2 : exS P (callN P (n + 1)) (.asg (.nm 1) (.bin .add (.v 1) (.dsp false [.dsp false [.k (.str "a"), .k (.int 1)], .tup [.k (.str "a"), .neg (.k (.int 1))], .tup [.k (.str "a"), .k (.bl true)], .tup [.k (.str "a"), .tup []], .tup [.k (.str ""), .tup []], .tup [.k (.str ""), .tup [.tup [.k (.str "a"), .k (.int 1)]]], .tup [.tup [], .k (.int 1)], .dsp false [.tup [.k (.str "a"), .k (.int 1)]]]))) [.ref l, .lst (anyA q)] S = .ok (.nx [.ref l, .lst (anyA q ++ anyB)]) S := by
    have eB : ev P (callN P (n + 1)) (.dsp false [.dsp false [.k (.str "a"), .k (.int 1)], .tup [.k (.str "a"), .neg (.k (.int 1))], .tup [.k (.str "a"), .k (.bl true)], .tup [.k (.str "a"), .tup []], .tup [.k (.str ""), .tup []], .tup [.k (.str ""), .tup [.tup [.k (.str "a"), .k (.int 1)]]], .tup [.tup [], .k (.int 1)], .dsp false [.tup [.k (.str "a"), .k (.int 1)]]]) [.ref l, .lst (anyA q)] S = .ok (.lst anyB) S := by
      simp [newL, anyB, show 8 ≤ line by decide, show 2 ≤ line by decide, show 1 ≤ line by decide]
    refine asg_ok ?_ rfl
    rw [ev, ev_v rfl (by simp), R.bind_ok, eB, R.bind_ok, bo]
    rfl
  have hl : (anyA q ++ anyB).length = 26 := rfl
  have hj : d.toNat < (anyA q ++ anyB).length := by rw [hl]; omega
  have ix := idx_lst (S := S1) (xs := anyA q ++ anyB) (k := d) (j := d.toNat) (by omega) (List.getElem?_eq_getElem hj)
  have hm : (anyA q ++ anyB)[d.toNat] ∈ anyA (10 ^ 40) ++ anyB := by
    have := List.getElem_mem hj
    rw [← hq]
    exact this
  obtain ⟨p1, p2, p3⟩ := any_all _ hm
  refine ⟨_, S1, ?_, p1, p2, p3, s1, w1⟩
  show (exB P (callN P (n + 1)) [_, _, _] [.ref l, .unb] S).bind _ = _
  rw [exB_go a1, exB_go a2, exB_rt (ret_ok (v := (anyA q ++ anyB)[d.toNat]) (S1 := S1) ?_), R.bind_ok]
  · show R.ok _ (sweep S.length _ S1) = _
    rw [sweep_same (by rw [w1.len]; exact Nat.le_refl _)]
  · rw [ev, ev_v rfl (by simp), R.bind_ok, ev_fn (evs_cons (ev_v rfl (by simp)) (evs_cons (by rw [ev]) rfl)) e1, R.bind_ok, ix]
    rfl
/-! ### plain trees -/
mutual
/-- tuples of tuples, short texts of letters, small numbers -/
def pl : Wv → Bool
  | .int i => decide (0 ≤ i) && decide (i < 10)
  | .str x => decide (x.length ≤ 8) && x.cps.toList.all fun c => decide (low c)
  | .tup xs => pls xs
  | .unb => false
  | .non => false
  | .bl _ => false
  | .lst _ => false
  | .ref _ => false
  | .cls _ => false
  | .scr _ => false
def pls : List Wv → Bool
  | [] => true
  | x :: xs => pl x && pls xs
end
theorem low_gd {x : Str} (h : (x.cps.toList.all fun c => decide (low c)) = true) : gd (.str x) = true := by
  show x.cps.all (· < 0x110000) = true
  rw [Array.all_eq_true_iff_forall_mem]
  intro c hc
  have := List.all_eq_true.mp h c (by simpa using hc)
  have := of_decide_eq_true this
  exact decide_eq_true (by have := this.2; omega)
mutual
theorem pl_gd : ∀ v : Wv, pl v = true → gd v = true
  | .int i, h => by
    simp only [pl, Bool.and_eq_true, decide_eq_true_eq] at h
    simp only [gd, decide_eq_true_eq]
    have : i.natAbs < 10 := by omega
    exact Nat.lt_of_lt_of_le this (by decide)
  | .str x, h => by
    simp only [pl, Bool.and_eq_true] at h
    exact low_gd h.2
  | .tup xs, h => by
    simp only [pl, gd] at h ⊢
    exact pls_gd xs h
  | .unb, h => by cases h
  | .non, h => by cases h
  | .bl _, h => by cases h
  | .lst _, h => by cases h
  | .ref _, h => by cases h
  | .cls _, h => by cases h
  | .scr _, h => by cases h
theorem pls_gd : ∀ vs : List Wv, pls vs = true → gds vs = true
  | [], _ => rfl
  | x :: xs, h => by
    simp only [pls, gds, Bool.and_eq_true] at h ⊢
    exact ⟨pl_gd x h.1, pls_gd xs h.2⟩
end
theorem pls_iff : ∀ {xs : List Wv}, pls xs = true ↔ ∀ x ∈ xs, pl x = true
  | [] => by simp [pls]
  | x :: xs => by simp [pls, pls_iff]
structure It (ls : List Str) (D W : Nat) (v : Wv) : Prop where
  p : pl v = true
  d : dep v ≤ D
  w : wei v ≤ W
  t : ∃ a b, v = .tup [a, b]
  k : isT ls v = true
theorem cl_of {S T : Sto} (cl : Cl S) (hl : T.length = S.length) (h : ∀ (j : Nat) (o : Ob), T[j]? = some o → S[j]? = some o ∨ o.under 0 = true) : Cl T := by
  rw [cl_iff] at cl ⊢
  intro j o e
  rw [hl]
  rcases h j o e with q | q
  · exact cl j o q
  · exact ob_mono (Nat.zero_le _) o q
/-- source and room have changed, nothing else -/
structure Tr (l room B : Nat) (S S' : Sto) : Prop where
  len : S'.length = S.length
  old : ∀ j, j ≠ l → j ≠ room → S'[j]? = S[j]?
  sr : Src l B S'
  rm : ∃ r : Int, S'[room]? = some (.lst [.int r])
theorem Tr.mono {room C : Nat} {S S' : Sto} (h : Tr l room B S S') (q : B ≤ C) : Tr l room C S S' := ⟨h.len, h.old, h.sr.mono q, h.rm⟩
theorem Tr.cl {room : Nat} {S S' : Sto} (h : Tr l room B S S') (c : Cl S) : Cl S' := cl_of c h.len fun j o e => by
  by_cases jl : j = l
  · subst jl
    obtain ⟨a, b, q, _⟩ := h.sr
    rw [q] at e
    cases e
    exact .inr rfl
  · by_cases jr : j = room
    · subst jr
      obtain ⟨r, q⟩ := h.rm
      rw [q] at e
      cases e
      exact .inr rfl
    · rw [h.old j jl jr] at e
      exact .inl e
theorem Tr.trans {room C : Nat} {S S1 S2 : Sto} (h : Tr l room B S S1) (k : Tr l room C S1 S2) : Tr l room C S S2 := ⟨k.len.trans h.len, fun j a b => (k.old j a b).trans (h.old j a b), k.sr, k.rm⟩
theorem Drw.tr {room : Nat} {S S' : Sto} (w : Drw l S S') (s : Src l B S') (ne : room ≠ l) (h : ∃ r : Int, S[room]? = some (.lst [.int r])) : Tr l room B S S' := ⟨w.len, fun j a _ => w.get a, s, by rw [w.get ne]; exact h⟩
def wT : Nat → Nat
  | 0 => 200
  | d + 1 => 4 * (wT d + 1) + 10
def cT : Nat → Nat
  | 0 => 3
  | d + 1 => 4 * cT d + 6
theorem len_lst {ls : List Str} : pr1 .len S (.lst (stl ls)) = some (.int ls.length) := by
  show some (Wv.int (stl ls).length) = _
  rw [List.length_map]
theorem nm_pl {x : Str} (h : Nm x) : pl (.str x) = true := by
  simp only [pl, Bool.and_eq_true, decide_eq_true_eq, List.all_eq_true]
  exact ⟨h.2.1, h.2.2⟩
/-- a leaf -/
theorem run_leaf (hd : P.fn 25 = some fd_law_draw_v0) {ls : List Str} (hl : Labels ls) {room : Nat} (ne : room ≠ l) (hs : Src l B S) (hB : B ≤ 10 ^ 11) {r : Int} (hr : S[room]? = some (.lst [.int r])) {u2 u4 u5 : Wv} :
    ∃ v S', exB P (callN P (n + 1)) [.seti (.v 3) (.k (.int 0)) (.bin .sub (.idx (.v 3) (.k (.int 0))) (.k (.int 1))), .ret (.tup [.idx (.v 1) (.fn 25 [.v 0, .p1 .len (.v 1)]), .fn 25 [.v 0, .k (.int 9)]])] [.ref l, .lst (stl ls), u2, .ref room, u4, u5] S = .ok (.rt v) S' ∧ It ls 1 200 v ∧ Tr l room (B + 2) S S' := by
  have hrl := (List.getElem?_eq_some_iff.mp hr).1
  have i0 : idxW S (.ref room) (.int 0) = some (.int r) := idx_ref hr (j := 0) rfl rfl
  have se : setI S (.ref room) (.int 0) (.int (r - 1)) = some (S.set room (.lst [.int (r - 1)])) := by
    unfold setI
    simp only [hr]
    rfl
  have a1 : exS P (callN P (n + 1)) (.seti (.v 3) (.k (.int 0)) (.bin .sub (.idx (.v 3) (.k (.int 0))) (.k (.int 1)))) [.ref l, .lst (stl ls), u2, .ref room, u4, u5] S = .ok (.nx [.ref l, .lst (stl ls), u2, .ref room, u4, u5]) (S.set room (.lst [.int (r - 1)])) := by
    rw [exS, ev, ev, ev_v rfl (by simp), R.bind_ok, ev, R.bind_ok, i0, R.of_some, R.bind_ok, ev, R.bind_ok, subi_ok, R.of_some, R.bind_ok, ev_v rfl (by simp), R.bind_ok, ev, R.bind_ok, se]
  have s1 : Src l B (S.set room (.lst [.int (r - 1)])) := by
    obtain ⟨a, b, q1, q2⟩ := hs
    exact ⟨a, b, by rw [List.getElem?_set_ne ne]; exact q1, q2⟩
  obtain ⟨d, S2, e2, d0, d1, s2, w2⟩ := run_draw (n := n) hd s1 (by omega) (m := (ls.length : Nat)) (by have := hl.few.1; omega) (by have := hl.few.2; omega)
  obtain ⟨f, S3, e3, f0, f1, s3, w3⟩ := run_draw (n := n) hd s2 (by omega) (m := 9) (by decide) (by decide)
  have hj : d.toNat < ls.length := by omega
  have ix := idx_lst (S := S2) (xs := stl ls) (k := d) (j := d.toNat) (by omega) (show (stl ls)[d.toNat]? = some (.str ls[d.toNat]) by rw [List.getElem?_map, List.getElem?_eq_getElem hj]; rfl)
  have nx := hl.nm _ (List.getElem_mem hj)
  refine ⟨.tup [.str ls[d.toNat], .int f], S3, ?_, ⟨?_, ?_, ?_, ⟨_, _, rfl⟩, ?_⟩, ⟨by rw [w3.len, w2.len, List.length_set], fun j a b => by rw [w3.get a, w2.get a, List.getElem?_set_ne (Ne.symm b)], s3, r - 1, by rw [w3.get ne, w2.get ne, List.getElem?_set_self hrl]⟩⟩
  · rw [exB_go a1]
    refine exB_rt (ret_ok ?_)
    rw [ev, evs_cons (v := .str ls[d.toNat]) (S1 := S2) ?_ (evs_cons (ev_fn (evs_cons (ev_v rfl (by simp)) (evs_cons (by rw [ev]) rfl)) e3) rfl), R.bind_ok]
    · rw [if_pos (show [Wv.str ls[d.toNat], .int f].length ≤ line from (by decide : 2 ≤ line))]
    · rw [ev, ev_v rfl (by simp), R.bind_ok, ev_fn (evs_cons (ev_v rfl (by simp)) (evs_cons (v := .int ls.length) (by rw [ev, ev_v rfl (by simp), R.bind_ok, len_lst]; rfl) rfl)) e2, R.bind_ok, ix]
      rfl
  · simp only [pl, pls, Bool.and_true, Bool.and_eq_true, decide_eq_true_eq]
    have := nm_pl nx
    simp only [pl, Bool.and_eq_true, decide_eq_true_eq] at this
    exact ⟨this, f0, by omega⟩
  · simp [dep, deps]
  · have := nx.2.1
    simp only [wei, weis]
    omega
  · rw [isT, isT2, isT3, isB, inL, isNum, decide_eq_true (List.getElem_mem hj), decide_eq_true f0]
    rfl
    all_goals simp
theorem eq_nil_lref {f : Nat} {vs : List Wv} (h : S[f]? = some (.lst vs)) : cmpW .eq S (.ref f) (.lst []) = some vs.isEmpty := by
  show eqV2 (view S (.ref f)) (.lst []) = _
  have hv : view S (.ref f) = .lst vs := by simp [h]
  rw [hv]
  cases vs with
  | nil =>
    have : eqV2 (.lst []) (.lst []) = some true := by decide +kernel
    rw [this]
    rfl
  | cons x ls => simp [eqV2]
theorem pick_m {d : Int} (h0 : 0 ≤ d) (h1 : d < 4) : ∃ x : Str, idxW S (.lst [.str "", .str "all", .str "sub", .str "m"]) (.int d) = some (.str x) ∧ pl (.str x) = true ∧ x.length ≤ 3 := by
  have : d = 0 ∨ d = 1 ∨ d = 2 ∨ d = 3 := by omega
  rcases this with rfl | rfl | rfl | rfl
  · exact ⟨"", rfl, by decide +kernel, by decide +kernel⟩
  · exact ⟨"all", rfl, by decide +kernel, by decide +kernel⟩
  · exact ⟨"sub", rfl, by decide +kernel, by decide +kernel⟩
  · exact ⟨"m", rfl, by decide +kernel, by decide +kernel⟩
theorem weis_le {W : Nat} : ∀ vs : List Wv, (∀ v ∈ vs, wei v ≤ W) → weis vs ≤ vs.length * (W + 1)
  | [], _ => by simp [weis]
  | v :: vs, h => by
    have h1 := h v List.mem_cons_self
    have h2 := weis_le vs fun w hw => h w (List.mem_cons_of_mem _ hw)
    simp only [weis, List.length_cons, Nat.add_mul]
    omega
theorem pl_under {k : Nat} : ∀ v : Wv, pl v = true → under k v = true
  | .int i, _ => rfl
  | .str x, _ => rfl
  | .tup xs, h => by
    simp only [under]
    simp only [pl] at h
    exact pls_under xs h
  | .unb, h => rfl
  | .non, h => rfl
  | .bl _, h => rfl
  | .lst _, h => by cases h
  | .ref _, h => by cases h
  | .cls _, h => rfl
  | .scr _, h => by cases h
where pls_under {k : Nat} : ∀ vs : List Wv, pls vs = true → unders k vs = true
  | [], _ => rfl
  | x :: xs, h => by
    simp only [pls, unders, Bool.and_eq_true] at h ⊢
    exact ⟨pl_under x h.1, pls_under xs h.2⟩
/-- how far a group's children are drawn -/
structure Kid (ls : List Str) (l room B D W : Nat) (S : Sto) (i : Nat) (S2 : Sto) : Prop where
  len : S2.length = S.length + 1
  old : ∀ j, j < S.length → j ≠ l → j ≠ room → S2[j]? = S[j]?
  sr : Src l B S2
  rm : ∃ r : Int, S2[room]? = some (.lst [.int r])
  ob : ∃ vs : List Wv, S2[S.length]? = some (.lst vs) ∧ vs.length ≤ i ∧ (∀ v ∈ vs, It ls D W v) ∧ (0 < i → vs ≠ [])
theorem Kid.cl {ls : List Str} {room D W i : Nat} {S S2 : Sto} (M : Kid ls l room B D W S i S2) (c : Cl S) : Cl S2 := by
  rw [cl_iff] at c ⊢
  intro j o e
  rw [M.len]
  by_cases jl : j = l
  · subst jl
    obtain ⟨a, b, q, _⟩ := M.sr
    rw [q] at e
    cases e
    rfl
  · by_cases jr : j = room
    · subst jr
      obtain ⟨r, q⟩ := M.rm
      rw [q] at e
      cases e
      rfl
    · by_cases js : j < S.length
      · rw [M.old j js jl jr] at e
        exact ob_mono (Nat.le_succ _) o (c j o e)
      · have := (List.getElem?_eq_some_iff.mp e).1
        have je : j = S.length := by have := M.len; omega
        subst je
        obtain ⟨vs, q, _, hv, _⟩ := M.ob
        rw [q] at e
        cases e
        show unders _ vs = true
        have : pls vs = true := pls_iff.mpr fun v hv' => (hv v hv').p
        exact pl_under.pls_under vs this
theorem run_tree (f29 : P.fn 29 = some fd_law_random_tree) (hd : P.fn 25 = some fd_law_draw_v0) {ls : List Str} (hl : Labels ls) {room : Nat} (ne : room ≠ l) : ∀ (d B : Nat) (S : Sto), Src l B S → B + 1000 * cT d ≤ 10 ^ 11 → Cl S → (∃ r : Int, S[room]? = some (.lst [.int r])) →
    ∃ v S', callN P (n + d + 2) 29 [.ref l, .lst (stl ls), .int d, .ref room] S = .ok v S' ∧ It ls (2 * d + 1) (wT d) v ∧ Tr l room (B + cT d) S S' := by
  intro d
  induction d with
  | zero =>
    intro B S hs hB cl hr
    obtain ⟨r, hr⟩ := hr
    obtain ⟨v, S', e, it, tr⟩ := run_leaf (n := n) (u2 := .int 0) (u4 := .unb) (u5 := .unb) hd hl ne hs (by have : cT 0 = 3 := rfl; omega) hr
    refine ⟨v, S', ?_, it, tr.mono (by have : cT 0 = 3 := rfl; omega)⟩
    rw [call_eq f29 rfl rfl (by decide)]
    have t1 : ev P (callN P (n + 1)) (.or [.cmp .eq (.v 2) (.k (.int 0)), .cmp .lt (.idx (.v 3) (.k (.int 0))) (.k (.int 2)), .cmp .eq (.fn 25 [.v 0, .k (.int 3)]) (.k (.int 0))]) [.ref l, .lst (stl ls), .int 0, .ref room, .unb, .unb] S = .ok (.bl true) S := by
      refine ev_or' (evAny_t ?_)
      rw [ev, ev_v rfl (by simp), R.bind_ok, ev, R.bind_ok, cmp_int_eq]
      rfl
    show (exB P (callN P (n + 1)) [_, _, _, _] [.ref l, .lst (stl ls), .int 0, .ref room, .unb, .unb] S).bind _ = _
    rw [exB_rt ((if_t t1).trans e), R.bind_ok]
    show R.ok v (sweep S.length v S') = _
    rw [sweep_same (Nat.le_of_eq tr.len)]
  | succ d ih =>
    intro B S hs hB cl hr
    have hc : cT (d + 1) = 4 * cT d + 6 := rfl
    obtain ⟨r, hr⟩ := hr
    have hrl := (List.getElem?_eq_some_iff.mp hr).1
    rw [call_eq f29 rfl rfl (by decide)]
    have e0 : (n + (d + 1) + 1) = n + d + 2 := by omega
    rw [e0]
    have nd : ev P (callN P (n + d + 2)) (.cmp .eq (.v 2) (.k (.int 0))) [.ref l, .lst (stl ls), .int (d + 1 : Nat), .ref room, .unb, .unb] S = .ok (.bl false) S := by
      rw [ev, ev_v rfl (by simp), R.bind_ok, ev, R.bind_ok, cmp_int_eq, decide_eq_false (by omega)]
      rfl
    have i0 : idxW S (.ref room) (.int 0) = some (.int r) := idx_ref hr (j := 0) rfl rfl
    have rm : ev P (callN P (n + d + 2)) (.cmp .lt (.idx (.v 3) (.k (.int 0))) (.k (.int 2))) [.ref l, .lst (stl ls), .int (d + 1 : Nat), .ref room, .unb, .unb] S = .ok (.bl (decide (r < 2))) S := by
      rw [ev, ev, ev_v rfl (by simp), R.bind_ok, ev, R.bind_ok, i0, R.of_some, R.bind_ok, ev, R.bind_ok, cmp_int_lt]
      rfl
    -- either a leaf, or the draw
    have leaf : ∀ (B' : Nat) (S1 : Sto), Drw l S S1 → Src l B' S1 → B' ≤ B + 1 → ev P (callN P (n + d + 2)) (.or [.cmp .eq (.v 2) (.k (.int 0)), .cmp .lt (.idx (.v 3) (.k (.int 0))) (.k (.int 2)), .cmp .eq (.fn 25 [.v 0, .k (.int 3)]) (.k (.int 0))]) [.ref l, .lst (stl ls), .int (d + 1 : Nat), .ref room, .unb, .unb] S = .ok (.bl true) S1 →
        ∃ v S', (exB P (callN P (n + d + 2)) fd_law_random_tree.body [.ref l, .lst (stl ls), .int (d + 1 : Nat), .ref room, .unb, .unb] S).bind (fun f S1 => backF S.length f S1) = .ok v S' ∧ It ls (2 * (d + 1) + 1) (wT (d + 1)) v ∧ Tr l room (B + cT (d + 1)) S S' := fun B' S1 w1 s1 hB1 t1 => by
      obtain ⟨v, S', e, it, tr⟩ := run_leaf (n := n + d + 1) (u2 := .int (d + 1 : Nat)) (u4 := .unb) (u5 := .unb) hd hl ne s1 (by omega) (r := r) (by rw [w1.get ne, hr])
      refine ⟨v, S', ?_, ⟨it.p, by have := it.d; omega, by
        have h1 := it.w
        have h2 : 200 ≤ wT (d + 1) := by
          have : ∀ k, 200 ≤ wT k := fun k => by
            induction k with
            | zero => exact Nat.le_refl _
            | succ k ih => show 200 ≤ 4 * (wT k + 1) + 10; omega
          exact this _
        omega, it.t, it.k⟩, ((w1.tr s1 ne ⟨r, hr⟩).trans tr).mono (by omega)⟩
      show (exB P (callN P (n + d + 2)) [_, _, _, _] [.ref l, .lst (stl ls), .int (d + 1 : Nat), .ref room, .unb, .unb] S).bind _ = _
      rw [exB_rt ((if_t t1).trans e), R.bind_ok]
      show R.ok v (sweep S.length v S') = _
      rw [sweep_same (Nat.le_of_eq (by rw [tr.len, w1.len]))]
    by_cases hr2 : r < 2
    · rw [decide_eq_true hr2] at rm
      exact leaf B S .rfl' hs (by omega) (ev_or' ((evAny_f nd).trans (evAny_t rm)))
    · rw [decide_eq_false hr2] at rm
      obtain ⟨q, S1, e1, q0, q1, s1, w1⟩ := run_draw (n := n + d + 1) hd hs (by omega) (m := 3) (by decide) (by decide)
      have dr : ev P (callN P (n + d + 2)) (.cmp .eq (.fn 25 [.v 0, .k (.int 3)]) (.k (.int 0))) [.ref l, .lst (stl ls), .int (d + 1 : Nat), .ref room, .unb, .unb] S = .ok (.bl (decide (q = 0))) S1 := by
        rw [ev, ev_fn (evs_cons (ev_v rfl (by simp)) (evs_cons (by rw [ev]) rfl)) e1, R.bind_ok, ev, R.bind_ok, cmp_int_eq]
        rfl
      by_cases hq : q = 0
      · rw [decide_eq_true hq] at dr
        exact leaf (B + 1) S1 w1 s1 (Nat.le_refl _) (ev_or' ((evAny_f nd).trans ((evAny_f rm).trans (evAny_t dr))))
      · rw [decide_eq_false hq] at dr
        have c1 : Cl S1 := w1.cl cl
        have p1 : exS P (callN P (n + d + 2)) (.ite (.or [.cmp .eq (.v 2) (.k (.int 0)), .cmp .lt (.idx (.v 3) (.k (.int 0))) (.k (.int 2)), .cmp .eq (.fn 25 [.v 0, .k (.int 3)]) (.k (.int 0))]) [.seti (.v 3) (.k (.int 0)) (.bin .sub (.idx (.v 3) (.k (.int 0))) (.k (.int 1))), .ret (.tup [.idx (.v 1) (.fn 25 [.v 0, .p1 .len (.v 1)]), .fn 25 [.v 0, .k (.int 9)]])] []) [.ref l, .lst (stl ls), .int (d + 1 : Nat), .ref room, .unb, .unb] S = .ok (.nx [.ref l, .lst (stl ls), .int (d + 1 : Nat), .ref room, .unb, .unb]) S1 :=
          (if_f (ev_or' ((evAny_f nd).trans ((evAny_f rm).trans ((evAny_f dr).trans rfl))))).trans exB_nil
        have p2 : exS P (callN P (n + d + 2)) (.asg (.nm 4) (.dsp true [])) [.ref l, .lst (stl ls), .int (d + 1 : Nat), .ref room, .unb, .unb] S1 = .ok (.nx [.ref l, .lst (stl ls), .int (d + 1 : Nat), .ref room, .ref S1.length, .unb]) (S1 ++ [.lst []]) :=
          asg_ok (by rw [ev, evs, R.bind_ok, newL_t (Nat.zero_le _)]) rfl
        have hl1 := s1.lt
        have s2 : Src l (B + 1) (S1 ++ [.lst []]) := by
          obtain ⟨a, b, z1, z2⟩ := s1
          exact ⟨a, b, by rw [get_old hl1]; exact z1, z2⟩
        have hr1 : S1[room]? = some (.lst [.int r]) := by rw [w1.get ne, hr]
        have hrl1 := (List.getElem?_eq_some_iff.mp hr1).1
        obtain ⟨q2, S3, e3, q20, q21, s3, w3⟩ := run_draw (n := n + d + 1) hd s2 (by omega) (m := 4) (by decide) (by decide)
        obtain ⟨m, hm⟩ : ∃ m : Nat, 1 + q2 = (m : Int) := ⟨(1 + q2).toNat, by omega⟩
        have hi : evI P (callN P (n + d + 2)) (.rng [.bin .add (.k (.int 1)) (.fn 25 [.v 0, .k (.int 4)])]) [.ref l, .lst (stl ls), .int (d + 1 : Nat), .ref room, .ref S1.length, .unb] (S1 ++ [.lst []]) = .ok (rngI m) S3 := by
          refine evI_rng (k := 1 + q2) ?_ hm (by omega)
          rw [ev, ev, R.bind_ok, ev_fn (evs_cons (ev_v rfl (by simp)) (evs_cons (by rw [ev]) rfl)) e3, R.bind_ok, add_ok]
          rfl
        have K0 : Kid ls l room (B + 2) (2 * d + 1) (wT d) S1 0 S3 := by
          refine ⟨by rw [w3.len]; simp, fun j hj a b => by rw [w3.get a, get_old hj], s3, ⟨r, by rw [w3.get ne, get_old hrl1, hr1]⟩, [], by rw [w3.get (by omega), get_last], Nat.zero_le _, by simp, fun z => absurd z (Nat.lt_irrefl 0)⟩
        obtain ⟨r4, S4, e4, M4, v5, rfl⟩ := for_inv (g := .nm 5) (b := [.ite (.or [.cmp .gt (.idx (.v 3) (.k (.int 0))) (.k (.int 0)), .cmp .eq (.v 4) (.dsp false [])]) [.ex (.mut .append (.v 4) [.fn 29 [.v 0, .v 1, .bin .sub (.v 2) (.k (.int 1)), .v 3]])] []]) hi
          (fun i r S5 => Kid ls l room (B + 2 + i * cT d) (2 * d + 1) (wT d) S1 i S5 ∧ ∃ v5, r = [.ref l, .lst (stl ls), .int (d + 1 : Nat), .ref room, .ref S1.length, v5]) ⟨by rw [Nat.zero_mul]; exact K0, _, rfl⟩ (fun _ _ _ _ _ => rfl) (fun i y r S5 hy hI => by
            obtain ⟨M, v5, rfl⟩ := hI
            obtain ⟨hi, rfl⟩ := rng_at hy
            obtain ⟨r5, hr5⟩ := M.rm
            obtain ⟨vs, hvs, hvl, hvi, hvz⟩ := M.ob
            have i5 : idxW S5 (.ref room) (.int 0) = some (.int r5) := idx_ref hr5 (j := 0) rfl rfl
            have hmul : (i + 1) * cT d = i * cT d + cT d := by rw [Nat.add_mul, Nat.one_mul]
            have hle : i * cT d ≤ 4 * cT d := Nat.mul_le_mul_right _ (by omega)
            have g1 : ev P (callN P (n + d + 2)) (.cmp .gt (.idx (.v 3) (.k (.int 0))) (.k (.int 0))) [.ref l, .lst (stl ls), .int (d + 1 : Nat), .ref room, .ref S1.length, .int i] S5 = .ok (.bl (decide (0 < r5))) S5 := by
              rw [ev, ev, ev_v rfl (by simp), R.bind_ok, ev, R.bind_ok, i5, R.of_some, R.bind_ok, ev, R.bind_ok, cmp_int_gt]
              rfl
            have g2 : ev P (callN P (n + d + 2)) (.cmp .eq (.v 4) (.dsp false [])) [.ref l, .lst (stl ls), .int (d + 1 : Nat), .ref room, .ref S1.length, .int i] S5 = .ok (.bl vs.isEmpty) S5 := by
              rw [ev, ev_v rfl (by simp), R.bind_ok, ev, evs, R.bind_ok, newL_f (Nat.zero_le _), R.bind_ok, eq_nil_lref hvs]
              rfl
            have act : ∃ S6, exB P (callN P (n + d + 2)) [.ex (.mut .append (.v 4) [.fn 29 [.v 0, .v 1, .bin .sub (.v 2) (.k (.int 1)), .v 3]])] [.ref l, .lst (stl ls), .int (d + 1 : Nat), .ref room, .ref S1.length, .int i] S5 = .ok (.nx [.ref l, .lst (stl ls), .int (d + 1 : Nat), .ref room, .ref S1.length, .int i]) S6 ∧ Kid ls l room (B + 2 + (i + 1) * cT d) (2 * d + 1) (wT d) S1 (i + 1) S6 := by
              obtain ⟨v, S6, e6, it, tr⟩ := ih (B + 2 + i * cT d) S5 M.sr (by omega) (M.cl c1) ⟨r5, hr5⟩
              have hvs6 : S6[S1.length]? = some (.lst vs) := by rw [tr.old _ (by omega) (by omega), hvs]
              have l6 : S6.length = S1.length + 1 := by rw [tr.len, M.len]
              have ea : ev P (callN P (n + d + 2)) (.fn 29 [.v 0, .v 1, .bin .sub (.v 2) (.k (.int 1)), .v 3]) [.ref l, .lst (stl ls), .int (d + 1 : Nat), .ref room, .ref S1.length, .int i] S5 = .ok v S6 := by
                refine ev_fn (evs_cons (ev_v rfl (by simp)) (evs_cons (ev_v rfl (by simp)) (evs_cons (v := .int d) ?_ (evs_cons (ev_v rfl (by simp)) rfl)))) e6
                rw [ev, ev_v rfl (by simp), R.bind_ok, ev, R.bind_ok, subi_ok]
                have : ((d + 1 : Nat) : Int) - 1 = d := by omega
                rw [this]
                rfl
              have lv : vs.length < line := Nat.lt_of_le_of_lt hvl (Nat.lt_of_lt_of_le (show i < 1000 by omega) (by decide))
              refine ⟨S6.set S1.length (.lst (vs ++ [v])), ?_, ⟨by rw [List.length_set, l6], fun j hj a b => by rw [List.getElem?_set_ne (by omega), tr.old j a b, M.old j hj a b], ?_, ?_, vs ++ [v], List.getElem?_set_self (by omega), by rw [List.length_append]; simp; exact hvl, fun w hw => ?_, fun _ z => by simp at z⟩⟩
              · rw [exB, exS, ev, ev_v rfl (by simp), R.bind_ok, if_pos (isBx_of hvs), evs_cons ea rfl, R.bind_ok, mut_app hvs6 lv]
                rfl
              · obtain ⟨a, b, z1, z2⟩ := tr.sr
                have : Src l (B + 2 + i * cT d + cT d) (S6.set S1.length (.lst (vs ++ [v]))) := ⟨a, b, by rw [List.getElem?_set_ne (by omega)]; exact z1, z2⟩
                exact this.mono (by omega)
              · obtain ⟨z, hz⟩ := tr.rm
                exact ⟨z, by rw [List.getElem?_set_ne (by omega)]; exact hz⟩
              · rcases List.mem_append.mp hw with hw | hw
                · exact hvi w hw
                · rw [List.mem_singleton.mp hw]
                  exact it
            have M' : vs ≠ [] → Kid ls l room (B + 2 + (i + 1) * cT d) (2 * d + 1) (wT d) S1 (i + 1) S5 := fun nz => ⟨M.len, M.old, M.sr.mono (by omega), M.rm, vs, hvs, by omega, hvi, fun _ => nz⟩
            have go : ∀ b : Bool, (b = false → vs ≠ []) → ev P (callN P (n + d + 2)) (.or [.cmp .gt (.idx (.v 3) (.k (.int 0))) (.k (.int 0)), .cmp .eq (.v 4) (.dsp false [])]) [.ref l, .lst (stl ls), .int (d + 1 : Nat), .ref room, .ref S1.length, .int i] S5 = .ok (.bl b) S5 → ∃ S6, exB P (callN P (n + d + 2)) [.ite (.or [.cmp .gt (.idx (.v 3) (.k (.int 0))) (.k (.int 0)), .cmp .eq (.v 4) (.dsp false [])]) [.ex (.mut .append (.v 4) [.fn 29 [.v 0, .v 1, .bin .sub (.v 2) (.k (.int 1)), .v 3]])] []] [.ref l, .lst (stl ls), .int (d + 1 : Nat), .ref room, .ref S1.length, .int i] S5 = .ok (.nx [.ref l, .lst (stl ls), .int (d + 1 : Nat), .ref room, .ref S1.length, .int i]) S6 ∧ Kid ls l room (B + 2 + (i + 1) * cT d) (2 * d + 1) (wT d) S1 (i + 1) S6 := fun b nz hb => by
              cases b with
              | true =>
                obtain ⟨S6, e6, M6⟩ := act
                exact ⟨S6, (exB_go ((if_t hb).trans e6)).trans exB_nil, M6⟩
              | false => exact ⟨S5, (exB_go ((if_f hb).trans exB_nil)).trans exB_nil, M' (nz rfl)⟩
            obtain ⟨S6, e6, M6⟩ : ∃ S6, _ ∧ _ := by
              by_cases z : 0 < r5
              · rw [decide_eq_true z] at g1
                exact go true (fun z => by cases z) (ev_or' (evAny_t g1))
              · rw [decide_eq_false z] at g1
                cases hv : vs.isEmpty with
                | true => rw [hv] at g2; exact go true (fun z => by cases z) (ev_or' ((evAny_f g1).trans (evAny_t g2)))
                | false => rw [hv] at g2; exact go false (fun _ z => by rw [z] at hv; cases hv) (ev_or' ((evAny_f g1).trans ((evAny_f g2).trans rfl)))
            exact ⟨[.ref l, .lst (stl ls), .int (d + 1 : Nat), .ref room, .ref S1.length, .int i], _, S6, rfl, e6, M6, _, rfl⟩)
        rw [rng_len] at M4
        obtain ⟨vs, hvs, hvl, hvi, hvz⟩ := M4.ob
        have hm4 : m ≤ 4 := by omega
        have hmc : m * cT d ≤ 4 * cT d := Nat.mul_le_mul_right _ hm4
        obtain ⟨q5, S5, e5, q50, q51, s5, w5⟩ := run_draw (n := n + d + 1) hd M4.sr (by omega) (m := 4) (by decide) (by decide)
        obtain ⟨x, ex, px, lx⟩ := pick_m (S := S5) q50 q51
        have hvs5 : S5[S1.length]? = some (.lst vs) := by rw [w5.get (by omega), hvs]
        have l5 : S5.length = S.length + 1 := by rw [w5.len, M4.len, w1.len]
        have et : pr1 .tuple S5 (.ref S1.length) = some (.tup vs) := by
          unfold pr1
          simp only [view, hvs5]
        have a4 : exS P (callN P (n + d + 2)) (.ret (.tup [.idx (.dsp false [.k (.str ""), .k (.str "all"), .k (.str "sub"), .k (.str "m")]) (.fn 25 [.v 0, .k (.int 4)]), .p1 .tuple (.v 4)])) [.ref l, .lst (stl ls), .int (d + 1 : Nat), .ref room, .ref S1.length, v5] S4 = .ok (.rt (.tup [.str x, .tup vs])) S5 := by
          refine ret_ok ?_
          rw [ev, evs_cons (v := .str x) (S1 := S5) ?_ (evs_cons (v := .tup vs) (by rw [ev, ev_v rfl (by simp), R.bind_ok, et]; rfl) rfl), R.bind_ok]
          · rw [if_pos (show [Wv.str x, .tup vs].length ≤ line from (by decide : 2 ≤ line))]
          · rw [ev, ev, evs_cons (by rw [ev]) (evs_cons (by rw [ev]) (evs_cons (by rw [ev]) (evs_cons (by rw [ev]) rfl))), R.bind_ok, newL_f (show [Wv.str "", .str "all", .str "sub", .str "m"].length ≤ line from (by decide : 4 ≤ line)), R.bind_ok, ev_fn (evs_cons (ev_v rfl (by simp)) (evs_cons (by rw [ev]) rfl)) e5, R.bind_ok, ex]
            rfl
        have hpl : pls vs = true := pls_iff.mpr fun v hv => (hvi v hv).p
        have plv : pl (.tup [.str x, .tup vs]) = true := by
          simp only [pl, pls, Bool.and_true, Bool.and_eq_true] at px ⊢
          exact ⟨px, hpl⟩
        -- the result's store
        have lT : (S5.take S.length).length = S.length := by rw [List.length_take]; omega
        have gT : ∀ j, j < S.length → (S5.take S.length)[j]? = S5[j]? := fun j hj => List.getElem?_take_of_lt hj
        have tr : Tr l room (B + cT (d + 1)) S (S5.take S.length) := by
          refine ⟨lT, fun j a b => ?_, ?_, ?_⟩
          · by_cases hj : j < S.length
            · rw [gT j hj, w5.get a, M4.old j (by rw [w1.len]; exact hj) a b, w1.get a]
            · rw [List.getElem?_eq_none (by rw [lT]; omega), List.getElem?_eq_none (by omega)]
          · obtain ⟨a, b, z1, z2⟩ := s5
            have : Src l (B + 2 + m * cT d + 1) (S5.take S.length) := ⟨a, b, by rw [gT l hs.lt]; exact z1, z2⟩
            exact this.mono (by omega)
          · obtain ⟨z, hz⟩ := M4.rm
            exact ⟨z, by rw [gT room hrl, w5.get ne, hz]⟩
        refine ⟨.tup [.str x, .tup vs], S5.take S.length, ?_, ⟨plv, ?_, ?_, ⟨_, _, rfl⟩, ?_⟩, tr⟩
        · show (exB P (callN P (n + d + 2)) [_, _, _, _] [.ref l, .lst (stl ls), .int (d + 1 : Nat), .ref room, .unb, .unb] S).bind _ = _
          rw [exB_go p1, exB_go p2, exB_go e4, exB_rt a4, R.bind_ok]
          show R.ok _ (sweep S.length _ S5) = _
          rw [sweep_to (tr.cl cl) lT (by omega) (fun j hj => (gT j hj).symm) (pl_under _ plv)]
        · have : deps vs ≤ 2 * d + 1 := deps_le.mpr fun v hv => (hvi v hv).d
          simp only [dep, deps]
          omega
        · have h1 := weis_le vs fun v hv => (hvi v hv).w
          have h2 : vs.length * (wT d + 1) ≤ 4 * (wT d + 1) := Nat.mul_le_mul_right _ (by omega)
          have h3 : wT (d + 1) = 4 * (wT d + 1) + 10 := rfl
          simp only [wei, weis]
          omega
        · have kx : isTs ls vs = true := by
            rw [isTs_all, List.all_eq_true]
            exact fun v hv => (hvi v hv).k
          have mx : isM (.str x) = true := by
            simp only [pl] at px
            exact px
          have nz : vs.isEmpty = false := by
            cases vs with
            | nil => exact absurd rfl (hvz (by omega))
            | cons v vs => rfl
          rw [isT, isT2, isT3, isB, mx, nz, kx]
          rfl
end Pe

set_option Elab.async false
set_option linter.all false
set_option maxRecDepth 100000
set_option maxHeartbeats 4000000
/-! Runs: a value bent at one place. -/
namespace Pe
open PySem L2
variable {P : Pg} {n l B : Nat} {S : Sto}
theorem sIx_any {α : Type} (xs : List α) (j : Nat) : xs.drop (HT.sIx xs.length 0 (some (j : Int))) = xs.drop j ∧ xs.take (HT.sIx xs.length xs.length (some (j : Int))) = xs.take j := by
  rw [HT.sIx_nat, HT.sIx_nat]
  by_cases h : j ≤ xs.length
  · rw [Nat.min_eq_left h]
    exact ⟨rfl, rfl⟩
  · rw [Nat.min_eq_right (by omega), List.drop_length, List.take_length, List.drop_eq_nil_of_le (by omega), List.take_of_length_le (by omega)]
    exact ⟨rfl, rfl⟩
theorem slT_lo {xs : List Wv} {j : Nat} : slcW S (.tup xs) none (some (j : Int)) = some (.tup (xs.take j)) := by
  show some (Wv.tup (cutW xs none (some (j : Int)))) = _
  unfold cutW
  rw [HT.sIx_none, List.drop_zero, Nat.sub_zero, (sIx_any xs j).2]
theorem slT_hi {xs : List Wv} {j : Nat} : slcW S (.tup xs) (some (j : Int)) none = some (.tup (xs.drop j)) := by
  show some (Wv.tup (cutW xs (some (j : Int)) none)) = _
  unfold cutW
  rw [HT.sIx_none, (sIx_any xs j).1, List.take_of_length_le]
  rw [HT.sIx_nat, List.length_drop]
  omega
theorem str_hi {x : Str} (hx : x.length ≤ 1000) : ∃ y, slcW S (.str x) (some 1) none = some (.str y) ∧ (gd (.str x) = true → gd (.str y) = true) ∧ y.length ≤ x.length := by
  have e : slcW S (.str x) (some 1) none = if x.length ≤ line then some (.str (cutS x (some 1) none)) else none := rfl
  refine ⟨_, by rw [e, if_pos (Nat.le_trans hx (by decide))], fun h => ?_, ?_⟩
  · have h' : x.cps.all (· < 0x110000) = true := h
    show (cutS x (some 1) none).cps.all (· < 0x110000) = true
    rw [Array.all_eq_true_iff_forall_mem] at h' ⊢
    intro c hc
    unfold cutS at hc
    have hc' : c ∈ ((x.cps.toList.drop (HT.sIx x.length 0 (some 1))).take (HT.sIx x.length x.length none - HT.sIx x.length 0 (some 1))) := by simpa using hc
    exact h' c (by simpa using List.mem_of_mem_drop (List.mem_of_mem_take hc'))
  · unfold cutS
    show Array.size _ ≤ _
    rw [List.size_toArray, List.length_take, List.length_drop]
    have : x.cps.toList.length = x.length := by simp [Str.length]
    omega
theorem add_tup {xs ys : List Wv} (h : xs.length + ys.length ≤ 1000000) : binW .add S (.tup xs) (.tup ys) = some (.tup (xs ++ ys)) := by
  show (if xs.length + ys.length ≤ line then some (Wv.tup (xs ++ ys)) else none) = _
  rw [if_pos (Nat.le_trans h (by decide))]
theorem add_lst {xs ys : List Wv} (h : xs.length + ys.length ≤ 1000000) : binW .add S (.lst xs) (.lst ys) = some (.lst (xs ++ ys)) := by
  show (if xs.length + ys.length ≤ line then some (Wv.lst (xs ++ ys)) else none) = _
  rw [if_pos (Nat.le_trans h (by decide))]
theorem add_str {x y : Str} (h : x.length + y.length ≤ 1000000) : binW .add S (.str x) (.str y) = some (.str (x ++ y)) := by
  show (if x.length + y.length ≤ line then some (Wv.str (x ++ y)) else none) = _
  rw [if_pos (Nat.le_trans h (by decide))]
theorem gd_app {x y : Str} (h : gd (.str x) = true) (k : gd (.str y) = true) : gd (.str (x ++ y)) = true := by
  have h' : x.cps.all (· < 0x110000) = true := h
  have k' : y.cps.all (· < 0x110000) = true := k
  show (x.cps ++ y.cps).all (· < 0x110000) = true
  rw [Array.all_append, h', k']
  rfl
theorem len_app {x y : Str} : (x ++ y).length = x.length + y.length := by
  show (x.cps ++ y.cps).size = _
  rw [Array.size_append]
  rfl
theorem up_1 : ∀ i, i < 26 → Txt.upper (tx [97 + i]) = tx [65 + i] := by
  have h : (List.range 26).all (fun i => decide (Txt.upper (tx [97 + i]) = tx [65 + i])) = true := by decide +kernel
  intro i hi
  exact of_decide_eq_true (List.all_eq_true.mp h i (List.mem_range.mpr hi))
theorem up_tx : ∀ cs : List Nat, (∀ c ∈ cs, low c) → Txt.upper (tx cs) = tx (cs.map fun c => c - 32)
  | [], _ => by decide +kernel
  | c :: cs, h => by
    have hc := h c List.mem_cons_self
    have e : tx (c :: cs) = tx [c] ++ tx cs := by
      show _ = (⟨[c].toArray ++ cs.toArray⟩ : Str)
      simp
    rw [e, PySem.W.KOpn.upper_app, up_tx cs fun d hd => h d (List.mem_cons_of_mem _ hd)]
    have e1 := up_1 (c - 97) (by have := hc.2; have := hc.1; omega)
    rw [show 97 + (c - 97) = c by have := hc.1; omega] at e1
    rw [e1]
    show (⟨[65 + (c - 97)].toArray ++ (cs.map fun c => c - 32).toArray⟩ : Str) = _
    rw [show 65 + (c - 97) = c - 32 by have := hc.1; omega]
    simp
/-- what a bent value may be -/
structure Rs (v r : Wv) : Prop where
  g : gd r = true
  d : dep r ≤ dep v + 5
  w : wei r ≤ 2 * wei v + 1000
theorem str_small : ∀ i, i < 10 → ∃ y : Str, pr1 .str S (.int (i : Nat)) = some (.str y) ∧ gd (.str y) = true ∧ y.length ≤ 20 := by
  have h : (List.range 10).all (fun (i : Nat) => gd (.str (toString (i : Int) : String)) && decide ((((toString (i : Int) : String)) : Str).length ≤ 20) && decide ((i : Int).natAbs.log2 < 1920)) = true := by decide +kernel
  intro i hi
  have := List.all_eq_true.mp h i (List.mem_range.mpr hi)
  simp only [Bool.and_eq_true, decide_eq_true_eq] at this
  refine ⟨(toString (i : Int) : String), ?_, this.1.1, this.1.2⟩
  show (if (i : Int).natAbs.log2 < 1920 then some (Wv.str (toString (i : Int) : String)) else none) = _
  rw [if_pos this.2]
theorem gds_mem {xs : List Wv} (h : ∀ x ∈ xs, gd x = true) : gd (.tup xs) = true := gds_iff.mpr h
theorem pick_in {xs : List Wv} {d : Int} (h0 : 0 ≤ d) (h1 : d < (xs.length : Int)) : ∃ r, idxW S (.lst xs) (.int d) = some r ∧ r ∈ xs := by
  have hj : d.toNat < xs.length := by omega
  exact ⟨xs[d.toNat], idx_lst (j := d.toNat) (by omega) (List.getElem?_eq_getElem hj), List.getElem_mem hj⟩
/-- the last two ways: another value, or itself a little changed -/
theorem run_flat (f31 : P.fn 31 = some fd_law_any_v0) (hd : P.fn 25 = some fd_law_draw_v0) {v : Wv} (hv : pl v = true) (hw : wei v ≤ 50000) (hs : Src l B S) (hB : B ≤ 10 ^ 9) :
    ∃ r S', exB P (callN P (n + 2)) [.par 2 3 (.fn 31 [.v 0]) (.fn 25 [.v 0, .k (.int 7)]), .ite (.and [.isi (.v 1) [.tuple], .cmp .lt (.v 3) (.k (.int 5))]) [.asg (.nm 4) (.fn 25 [.v 0, .bin .add (.p1 .len (.v 1)) (.k (.int 1))]), .asg (.nm 5) (.dsp false [.lst false (.v 1), .bin .add (.slc (.v 1) none (some (.v 4))) (.slc (.v 1) (some (.bin .add (.v 4) (.k (.int 1)))) none), .bin .add (.bin .add (.slc (.v 1) none (some (.v 4))) (.tup [.v 2])) (.slc (.v 1) (some (.v 4)) none), .rev false (.v 1)]), .ret (.idx (.bin .add (.v 5) (.dsp false [.bin .add (.slc (.v 1) none (some (.bin .add (.v 4) (.k (.int 1))))) (.slc (.v 1) (some (.v 4)) none)])) (.v 3))] [], .ite (.and [.isi (.v 1) [.int], .cmp .lt (.v 3) (.k (.int 5))]) [.ret (.idx (.dsp false [.bin .add (.v 1) (.k (.int 1)), .bin .sub (.v 1) (.k (.int 1)), .cmp .eq (.v 1) (.k (.int 1)), .bin .sub (.k (.int 0)) (.v 1), .p1 .str (.v 1)]) (.v 3))] [], .ite (.and [.isi (.v 1) [.str], .cmp .lt (.v 3) (.k (.int 4))]) [.ret (.idx (.dsp false [.bin .add (.v 1) (.k (.str "x")), .p1 .upper (.v 1), .slc (.v 1) (some (.k (.int 1))) none, .bin .add (.v 1) (.k (.str " "))]) (.v 3))] [], .ret (.v 2)] [.ref l, v, .unb, .unb, .unb, .unb] S = .ok (.rt r) S' ∧ Rs v r ∧ Src l (B + 3) S' ∧ Drw l S S' := by
  have gv := pl_gd v hv
  have nu := gd_nu gv
  obtain ⟨o, S1, e1, go, do_, wo, s1, w1⟩ := run_any (n := n) f31 hd hs (by omega)
  obtain ⟨c, S2, e2, c0, c1, s2, w2⟩ := run_draw (n := n + 1) hd s1 (by omega) (m := 7) (by decide) (by decide)
  have a1 : exS P (callN P (n + 2)) (.par 2 3 (.fn 31 [.v 0]) (.fn 25 [.v 0, .k (.int 7)])) [.ref l, v, .unb, .unb, .unb, .unb] S = .ok (.nx [.ref l, v, o, .int c, .unb, .unb]) S2 := by
    rw [exS, ev_fn (evs_cons (ev_v rfl (by simp)) rfl) e1, R.bind_ok, ev_fn (evs_cons (ev_v rfl (by simp)) (evs_cons (by rw [ev]) rfl)) e2, R.bind_ok, if_pos (by simp)]
    rfl
  have ro : Rs v o := ⟨go, by omega, by omega⟩
  have w02 := w1.trans w2
  rw [exB_go a1]
  have isi : ∀ (T : Ty) (S : Sto), ev P (callN P (n + 2)) (.isi (.v 1) [T]) [.ref l, v, o, .int c, .unb, .unb] S = R.of ((isAny S v [T]).map Wv.bl) S := fun T S => by
    rw [ev, ev_v rfl nu, R.bind_ok]
  have lt : ∀ (m : Int) (S : Sto), ev P (callN P (n + 2)) (.cmp .lt (.v 3) (.k (.int m))) [.ref l, v, o, .int c, .unb, .unb] S = .ok (.bl (decide (c < m))) S := fun m S => by
    rw [ev, ev_v rfl (by simp), R.bind_ok, ev, R.bind_ok, cmp_int_lt]
    rfl
  have fin : exS P (callN P (n + 2)) (.ret (.v 2)) [.ref l, v, o, .int c, .unb, .unb] S2 = .ok (.rt o) S2 := ret_ok (ev_v rfl (gd_nu go))
  have s2' := s2.mono (show B + 1 + 1 ≤ B + 3 by omega)
  cases v with
  | tup xs =>
    have no1 : ∀ b, exS P (callN P (n + 2)) (.ite (.and [.isi (.v 1) [.int], .cmp .lt (.v 3) (.k (.int 5))]) b []) [.ref l, .tup xs, o, .int c, .unb, .unb] S2 = .ok (.nx [.ref l, .tup xs, o, .int c, .unb, .unb]) S2 := fun b => (if_f (ev_and' (evAll_f (isi .int S2)))).trans exB_nil
    have no2 : ∀ b, exS P (callN P (n + 2)) (.ite (.and [.isi (.v 1) [.str], .cmp .lt (.v 3) (.k (.int 4))]) b []) [.ref l, .tup xs, o, .int c, .unb, .unb] S2 = .ok (.nx [.ref l, .tup xs, o, .int c, .unb, .unb]) S2 := fun b => (if_f (ev_and' (evAll_f (isi .str S2)))).trans exB_nil
    have l5 := lt 5 S2
    by_cases h5 : c < 5
    · rw [decide_eq_true h5] at l5
      have lx : xs.length ≤ 50000 := Nat.le_trans (len_weis xs) hw
      have wx : weis xs ≤ 50000 := hw
      obtain ⟨a, S3, e3, a0, a1', s3, w3⟩ := run_draw (n := n + 1) hd s2 (by omega) (m := (xs.length : Int) + 1) (by omega) (by omega)
      obtain ⟨j, rfl⟩ : ∃ j : Nat, a = (j : Int) := ⟨a.toNat, by omega⟩
      have hj : j ≤ xs.length := by omega
      have ej : ((j : Int) + 1) = ((j + 1 : Nat) : Int) := by omega
      have q4 : exS P (callN P (n + 2)) (.asg (.nm 4) (.fn 25 [.v 0, .bin .add (.p1 .len (.v 1)) (.k (.int 1))])) [.ref l, .tup xs, o, .int c, .unb, .unb] S2 = .ok (.nx [.ref l, .tup xs, o, .int c, .int j, .unb]) S3 := by
        refine asg_ok (ev_fn (evs_cons (ev_v rfl (by simp)) (evs_cons (v := .int ((xs.length : Int) + 1)) ?_ rfl)) e3) rfl
        rw [ev, ev, ev_v rfl (by simp), R.bind_ok]
        rfl
      have eA : ∀ r5 : Wv, ev P (callN P (n + 2)) (.slc (.v 1) none (some (.v 4))) [.ref l, .tup xs, o, .int c, .int j, r5] S3 = .ok (.tup (xs.take j)) S3 := fun r5 => by
        rw [ev, ev_v rfl (by simp), R.bind_ok, evO, R.bind_ok, evO, ev_v rfl (by simp), R.bind_ok]
        show (R.of (some (some (j : Int))) S3).bind _ = _
        rw [R.of_some, R.bind_ok, slT_lo]
        rfl
      have eD : ∀ r5 : Wv, ev P (callN P (n + 2)) (.slc (.v 1) (some (.v 4)) none) [.ref l, .tup xs, o, .int c, .int j, r5] S3 = .ok (.tup (xs.drop j)) S3 := fun r5 => by
        rw [ev, ev_v rfl (by simp), R.bind_ok, evO, ev_v rfl (by simp), R.bind_ok]
        show ((R.of (some (some (j : Int))) S3).bind _) = _
        rw [R.of_some, R.bind_ok, evO, R.bind_ok, slT_hi]
        rfl
      have eE : ∀ r5 : Wv, ev P (callN P (n + 2)) (.slc (.v 1) (some (.bin .add (.v 4) (.k (.int 1)))) none) [.ref l, .tup xs, o, .int c, .int j, r5] S3 = .ok (.tup (xs.drop (j + 1))) S3 := fun r5 => by
        rw [ev, ev_v rfl (by simp), R.bind_ok, evO, ev, ev_v rfl (by simp), R.bind_ok, ev, R.bind_ok, add_ok, R.of_some, R.bind_ok]
        show ((R.of (some (some ((j : Int) + 1))) S3).bind _) = _
        rw [R.of_some, R.bind_ok, evO, R.bind_ok, ej, slT_hi]
        rfl
      have eF : ∀ r5 : Wv, ev P (callN P (n + 2)) (.slc (.v 1) none (some (.bin .add (.v 4) (.k (.int 1))))) [.ref l, .tup xs, o, .int c, .int j, r5] S3 = .ok (.tup (xs.take (j + 1))) S3 := fun r5 => by
        rw [ev, ev_v rfl (by simp), R.bind_ok, evO, R.bind_ok, evO, ev, ev_v rfl (by simp), R.bind_ok, ev, R.bind_ok, add_ok, R.of_some, R.bind_ok]
        show ((R.of (some (some ((j : Int) + 1))) S3).bind _) = _
        rw [R.of_some, R.bind_ok, ej, slT_lo]
        rfl
      have lA : (xs.take j).length ≤ 50000 := by rw [List.length_take]; omega
      have lD : (xs.drop j).length ≤ 50000 := by rw [List.length_drop]; omega
      have lE : (xs.drop (j + 1)).length ≤ 50000 := by rw [List.length_drop]; omega
      have lF : (xs.take (j + 1)).length ≤ 50000 := by rw [List.length_take]; omega
      have q5 : exS P (callN P (n + 2)) (.asg (.nm 5) (.dsp false [.lst false (.v 1), .bin .add (.slc (.v 1) none (some (.v 4))) (.slc (.v 1) (some (.bin .add (.v 4) (.k (.int 1)))) none), .bin .add (.bin .add (.slc (.v 1) none (some (.v 4))) (.tup [.v 2])) (.slc (.v 1) (some (.v 4)) none), .rev false (.v 1)])) [.ref l, .tup xs, o, .int c, .int j, .unb] S3 = .ok (.nx [.ref l, .tup xs, o, .int c, .int j, .lst [.lst xs, .tup (xs.take j ++ xs.drop (j + 1)), .tup (xs.take j ++ [o] ++ xs.drop j), .tup xs.reverse]]) S3 := by
        refine asg_ok ?_ rfl
        rw [ev, evs_cons (v := .lst xs) (S1 := S3) ?_ (evs_cons (v := .tup (xs.take j ++ xs.drop (j + 1))) (S1 := S3) ?_ (evs_cons (v := .tup (xs.take j ++ [o] ++ xs.drop j)) (S1 := S3) ?_ (evs_cons (v := .tup xs.reverse) (S1 := S3) ?_ rfl))), R.bind_ok, newL_f (show ([.lst xs, .tup (xs.take j ++ xs.drop (j + 1)), .tup (xs.take j ++ [o] ++ xs.drop j), .tup xs.reverse] : List Wv).length ≤ line from (by decide : 4 ≤ line))]
        · rw [ev, ev_v rfl (by simp), R.bind_ok]
          show (R.of (some xs) S3).bind _ = _
          rw [R.of_some, R.bind_ok, newL_f (Nat.le_trans lx (by decide))]
        · rw [ev, eA, R.bind_ok, eE, R.bind_ok, add_tup (by omega)]
          rfl
        · rw [ev, ev, eA, R.bind_ok, ev, evs_cons (ev_v rfl (gd_nu go)) rfl, R.bind_ok, if_pos (show [o].length ≤ line from (by decide : 1 ≤ line)), R.bind_ok, add_tup (by simp only [List.length_singleton]; omega), R.of_some, R.bind_ok, eD, R.bind_ok, add_tup (by rw [List.length_append, List.length_singleton]; omega)]
          rfl
        · rw [ev, ev_v rfl (by simp), R.bind_ok]
          rfl
      let cand : List Wv := [.lst xs, .tup (xs.take j ++ xs.drop (j + 1)), .tup (xs.take j ++ [o] ++ xs.drop j), .tup xs.reverse] ++ [.tup (xs.take (j + 1) ++ xs.drop j)]
      obtain ⟨r, er, hr⟩ := pick_in (S := S3) (xs := cand) c0 h5
      have q6 : exS P (callN P (n + 2)) (.ret (.idx (.bin .add (.v 5) (.dsp false [.bin .add (.slc (.v 1) none (some (.bin .add (.v 4) (.k (.int 1))))) (.slc (.v 1) (some (.v 4)) none)])) (.v 3))) [.ref l, .tup xs, o, .int c, .int j, .lst [.lst xs, .tup (xs.take j ++ xs.drop (j + 1)), .tup (xs.take j ++ [o] ++ xs.drop j), .tup xs.reverse]] S3 = .ok (.rt r) S3 := by
        refine ret_ok ?_
        rw [ev, ev, ev_v rfl (by simp), R.bind_ok, ev, evs_cons (v := .tup (xs.take (j + 1) ++ xs.drop j)) (S1 := S3) ?_ rfl, R.bind_ok, newL_f (show ([.tup (xs.take (j + 1) ++ xs.drop j)] : List Wv).length ≤ line from (by decide : 1 ≤ line)), R.bind_ok, add_lst (by simp), R.of_some, R.bind_ok, ev_v rfl (by simp), R.bind_ok]
        · show R.of (idxW S3 (.lst cand) (.int c)) S3 = _
          rw [er]
          rfl
        · rw [ev, eF, R.bind_ok, eD, R.bind_ok, add_tup (by omega)]
          rfl
      refine ⟨r, S3, ?_, ?_, s3.mono (by omega), w02.trans w3⟩
      · exact exB_rt ((if_t (ev_and' ((evAll_t (isi .tuple S2)).trans ((evAll_t l5).trans rfl)))).trans ((exB_go q4).trans ((exB_go q5).trans (exB_rt q6))))
      · have gx : ∀ x ∈ xs, gd x = true := gds_iff.mp (show gds xs = true from gv)
        have dx : ∀ x ∈ xs, dep x ≤ deps xs := deps_le.mp (Nat.le_refl _)
        have hdv : dep (.tup xs) = deps xs + 1 := rfl
        have hwv : wei (.tup xs) = weis xs := rfl
        have wt1 := weis_take j xs
        have wt2 := weis_take (j + 1) xs
        have of : ∀ ys : List Wv, (∀ y ∈ ys, gd y = true ∧ dep y ≤ deps xs + 4) → weis ys ≤ 2 * weis xs + 1000 → Rs (.tup xs) (.tup ys) := fun ys h1 h2 => by
          refine ⟨gds_iff.mpr fun y hy => (h1 y hy).1, ?_, h2⟩
          have : deps ys ≤ deps xs + 4 := deps_le.mpr fun y hy => (h1 y hy).2
          show deps ys + 1 ≤ _
          rw [hdv]
          omega
        have ok : ∀ y ∈ xs, gd y = true ∧ dep y ≤ deps xs + 4 := fun y hy => ⟨gx y hy, Nat.le_trans (dx y hy) (by omega)⟩
        have hr' : r = .lst xs ∨ r = .tup (xs.take j ++ xs.drop (j + 1)) ∨ r = .tup (xs.take j ++ [o] ++ xs.drop j) ∨ r = .tup xs.reverse ∨ r = .tup (xs.take (j + 1) ++ xs.drop j) := by
          simpa [cand] using hr
        rcases hr' with rfl | rfl | rfl | rfl | rfl
        · exact ⟨gds_iff.mpr gx, by show deps xs + 1 ≤ _; rw [hdv]; omega, by show weis xs ≤ _; rw [hwv]; omega⟩
        · refine of _ (fun y hy => ?_) (by rw [weis_app]; omega)
          rcases List.mem_append.mp hy with hy | hy
          · exact ok y (List.mem_of_mem_take hy)
          · exact ok y (List.mem_of_mem_drop hy)
        · refine of _ (fun y hy => ?_) (by rw [weis_app, weis_app]; simp only [weis]; omega)
          rcases List.mem_append.mp hy with hy | hy
          · rcases List.mem_append.mp hy with hy | hy
            · exact ok y (List.mem_of_mem_take hy)
            · rw [List.mem_singleton.mp hy]
              exact ⟨go, by omega⟩
          · exact ok y (List.mem_of_mem_drop hy)
        · exact of _ (fun y hy => ok y (List.mem_reverse.mp hy)) (by rw [weis_rev]; omega)
        · refine of _ (fun y hy => ?_) (by rw [weis_app]; omega)
          rcases List.mem_append.mp hy with hy | hy
          · exact ok y (List.mem_of_mem_take hy)
          · exact ok y (List.mem_of_mem_drop hy)
    · rw [decide_eq_false h5] at l5
      exact ⟨o, S2, (exB_go ((if_f (ev_and' ((evAll_t (isi .tuple S2)).trans (evAll_f l5)))).trans exB_nil)).trans ((exB_go (no1 _)).trans ((exB_go (no2 _)).trans (exB_rt fin))), ro, s2', w02⟩
  | int i =>
    have no0 : ∀ b, exS P (callN P (n + 2)) (.ite (.and [.isi (.v 1) [.tuple], .cmp .lt (.v 3) (.k (.int 5))]) b []) [.ref l, .int i, o, .int c, .unb, .unb] S2 = .ok (.nx [.ref l, .int i, o, .int c, .unb, .unb]) S2 := fun b => (if_f (ev_and' (evAll_f (isi .tuple S2)))).trans exB_nil
    have no2 : ∀ b, exS P (callN P (n + 2)) (.ite (.and [.isi (.v 1) [.str], .cmp .lt (.v 3) (.k (.int 4))]) b []) [.ref l, .int i, o, .int c, .unb, .unb] S2 = .ok (.nx [.ref l, .int i, o, .int c, .unb, .unb]) S2 := fun b => (if_f (ev_and' (evAll_f (isi .str S2)))).trans exB_nil
    have l5 := lt 5 S2
    by_cases h5 : c < 5
    · rw [decide_eq_true h5] at l5
      have hi : 0 ≤ i ∧ i < 10 := by simpa [pl] using hv
      obtain ⟨k, rfl⟩ : ∃ k : Nat, i = (k : Int) := ⟨i.toNat, by omega⟩
      obtain ⟨y, ey, gy, ly⟩ := str_small (S := S2) k (by omega)
      obtain ⟨r, er, hr⟩ := pick_in (S := S2) (xs := [.int ((k : Int) + 1), .int ((k : Int) - 1), .bl (decide ((k : Int) = 1)), .int (0 - (k : Int)), .str y]) c0 h5
      have q6 : exS P (callN P (n + 2)) (.ret (.idx (.dsp false [.bin .add (.v 1) (.k (.int 1)), .bin .sub (.v 1) (.k (.int 1)), .cmp .eq (.v 1) (.k (.int 1)), .bin .sub (.k (.int 0)) (.v 1), .p1 .str (.v 1)]) (.v 3))) [.ref l, .int k, o, .int c, .unb, .unb] S2 = .ok (.rt r) S2 := by
        refine ret_ok ?_
        have v1 : ev P (callN P (n + 2)) (.v 1) [.ref l, .int k, o, .int c, .unb, .unb] S2 = .ok (.int k) S2 := ev_v rfl (by simp)
        rw [ev, ev, evs_cons (v := .int ((k : Int) + 1)) (S1 := S2) (by rw [ev, v1, R.bind_ok, ev, R.bind_ok]; rfl) (evs_cons (v := .int ((k : Int) - 1)) (S1 := S2) (by rw [ev, v1, R.bind_ok, ev, R.bind_ok]; rfl) (evs_cons (v := .bl (decide ((k : Int) = 1))) (S1 := S2) (by rw [ev, v1, R.bind_ok, ev, R.bind_ok]; rfl) (evs_cons (v := .int (0 - (k : Int))) (S1 := S2) (by rw [ev, ev, R.bind_ok, v1, R.bind_ok]; rfl) (evs_cons (v := .str y) (S1 := S2) (by rw [ev, v1, R.bind_ok, ey]; rfl) rfl)))), R.bind_ok, newL_f (show ([.int ((k : Int) + 1), .int ((k : Int) - 1), .bl (decide ((k : Int) = 1)), .int (0 - (k : Int)), .str y] : List Wv).length ≤ line from (by decide : 5 ≤ line)), R.bind_ok, ev_v rfl (by simp), R.bind_ok, er]
        rfl
      refine ⟨r, S2, (exB_go (no0 _)).trans (exB_rt ((if_t (ev_and' ((evAll_t (isi .int S2)).trans ((evAll_t l5).trans rfl)))).trans (exB_rt q6))), ?_, s2', w02⟩
      have small : ∀ z : Int, z.natAbs < 100 → Rs (.int (k : Int)) (.int z) := fun z hz => ⟨by simp only [gd, decide_eq_true_eq]; exact Nat.lt_of_lt_of_le hz (by decide), Nat.zero_le _, by show 170 ≤ _; omega⟩
      have hr' : r = .int ((k : Int) + 1) ∨ r = .int ((k : Int) - 1) ∨ r = .bl (decide ((k : Int) = 1)) ∨ r = .int (0 - (k : Int)) ∨ r = .str y := by
        simpa using hr
      rcases hr' with rfl | rfl | rfl | rfl | rfl
      · exact small _ (by omega)
      · exact small _ (by omega)
      · exact ⟨rfl, Nat.zero_le _, Nat.zero_le _⟩
      · exact small _ (by omega)
      · exact ⟨gy, Nat.zero_le _, by show y.length ≤ _; omega⟩
    · rw [decide_eq_false h5] at l5
      exact ⟨o, S2, (exB_go (no0 _)).trans ((exB_go ((if_f (ev_and' ((evAll_t (isi .int S2)).trans (evAll_f l5)))).trans exB_nil)).trans ((exB_go (no2 _)).trans (exB_rt fin))), ro, s2', w02⟩
  | str x =>
    have no0 : ∀ b, exS P (callN P (n + 2)) (.ite (.and [.isi (.v 1) [.tuple], .cmp .lt (.v 3) (.k (.int 5))]) b []) [.ref l, .str x, o, .int c, .unb, .unb] S2 = .ok (.nx [.ref l, .str x, o, .int c, .unb, .unb]) S2 := fun b => (if_f (ev_and' (evAll_f (isi .tuple S2)))).trans exB_nil
    have no1 : ∀ b, exS P (callN P (n + 2)) (.ite (.and [.isi (.v 1) [.int], .cmp .lt (.v 3) (.k (.int 5))]) b []) [.ref l, .str x, o, .int c, .unb, .unb] S2 = .ok (.nx [.ref l, .str x, o, .int c, .unb, .unb]) S2 := fun b => (if_f (ev_and' (evAll_f (isi .int S2)))).trans exB_nil
    have l4 := lt 4 S2
    by_cases h4 : c < 4
    · rw [decide_eq_true h4] at l4
      have hx : x.length ≤ 8 ∧ (x.cps.toList.all fun c => decide (low c)) = true := by
        simpa only [pl, Bool.and_eq_true, decide_eq_true_eq] using hv
      obtain ⟨z, ez, gz, lz⟩ := str_hi (S := S2) (x := x) (by omega)
      have lx : ("x" : Str).length = 1 := by decide +kernel
      have ls : (" " : Str).length = 1 := by decide +kernel
      have ux : Txt.upper x = tx (x.cps.toList.map fun c => c - 32) := by
        have e : x = tx x.cps.toList := by
          obtain ⟨c⟩ := x
          simp [tx]
        have := up_tx x.cps.toList fun c hc => of_decide_eq_true (List.all_eq_true.mp hx.2 c hc)
        rw [← e] at this
        exact this
      have lu : (Txt.upper x).length = x.length := by
        rw [ux, len_tx, List.length_map]
        simp [Str.length]
      have gu : gd (.str (Txt.upper x)) = true := by
        rw [ux]
        show (tx _).cps.all (· < 0x110000) = true
        rw [Array.all_eq_true_iff_forall_mem]
        intro c hc
        have hc' : c ∈ x.cps.toList.map fun c => c - 32 := by simpa using hc
        obtain ⟨d, hd', rfl⟩ := List.mem_map.mp hc'
        have := of_decide_eq_true (List.all_eq_true.mp hx.2 d hd')
        exact decide_eq_true (by have := this.2; omega)
      obtain ⟨r, er, hr⟩ := pick_in (S := S2) (xs := [.str (x ++ "x"), .str (Txt.upper x), .str z, .str (x ++ " ")]) c0 h4
      have q6 : exS P (callN P (n + 2)) (.ret (.idx (.dsp false [.bin .add (.v 1) (.k (.str "x")), .p1 .upper (.v 1), .slc (.v 1) (some (.k (.int 1))) none, .bin .add (.v 1) (.k (.str " "))]) (.v 3))) [.ref l, .str x, o, .int c, .unb, .unb] S2 = .ok (.rt r) S2 := by
        refine ret_ok ?_
        have v1 : ev P (callN P (n + 2)) (.v 1) [.ref l, .str x, o, .int c, .unb, .unb] S2 = .ok (.str x) S2 := ev_v rfl (by simp)
        have u1 : pr1 .upper S2 (.str x) = some (.str (Txt.upper x)) := by
          show (if x.length ≤ 5592405 then some (Wv.str (Txt.upper x)) else none) = _
          rw [if_pos (by omega)]
        rw [ev, ev, evs_cons (v := .str (x ++ "x")) (S1 := S2) (by rw [ev, v1, R.bind_ok, ev, R.bind_ok, add_str (by omega)]; rfl) (evs_cons (v := .str (Txt.upper x)) (S1 := S2) (by rw [ev, v1, R.bind_ok, u1]; rfl) (evs_cons (v := .str z) (S1 := S2) (by
            rw [ev, v1, R.bind_ok, evO, ev, R.bind_ok]
            show ((R.of (some (some (1 : Int))) S2).bind _) = _
            rw [R.of_some, R.bind_ok, evO, R.bind_ok, ez]
            rfl) (evs_cons (v := .str (x ++ " ")) (S1 := S2) (by rw [ev, v1, R.bind_ok, ev, R.bind_ok, add_str (by omega)]; rfl) rfl))), R.bind_ok, newL_f (show ([.str (x ++ "x"), .str (Txt.upper x), .str z, .str (x ++ " ")] : List Wv).length ≤ line from (by decide : 4 ≤ line)), R.bind_ok, ev_v rfl (by simp), R.bind_ok, er]
        rfl
      refine ⟨r, S2, (exB_go (no0 _)).trans ((exB_go (no1 _)).trans (exB_rt ((if_t (ev_and' ((evAll_t (isi .str S2)).trans ((evAll_t l4).trans rfl)))).trans (exB_rt q6)))), ?_, s2', w02⟩
      have of : ∀ y : Str, gd (.str y) = true → y.length ≤ 100 → Rs (.str x) (.str y) := fun y h1 h2 => ⟨h1, Nat.zero_le _, by show y.length ≤ _; omega⟩
      have hr' : r = .str (x ++ "x") ∨ r = .str (Txt.upper x) ∨ r = .str z ∨ r = .str (x ++ " ") := by
        simpa using hr
      rcases hr' with rfl | rfl | rfl | rfl
      · exact of _ (gd_app gv (by decide +kernel)) (by rw [len_app, lx]; omega)
      · exact of _ gu (by omega)
      · exact of _ (gz gv) (by omega)
      · exact of _ (gd_app gv (by decide +kernel)) (by rw [len_app, ls]; omega)
    · rw [decide_eq_false h4] at l4
      exact ⟨o, S2, (exB_go (no0 _)).trans ((exB_go (no1 _)).trans ((exB_go ((if_f (ev_and' ((evAll_t (isi .str S2)).trans (evAll_f l4)))).trans exB_nil)).trans (exB_rt fin))), ro, s2', w02⟩
  | _ => cases hv
end Pe

set_option Elab.async false
set_option linter.all false
set_option maxRecDepth 100000
set_option maxHeartbeats 4000000
/-! Runs: a value bent at one place, the whole. -/
namespace Pe
open PySem L2
variable {P : Pg} {n l B : Nat} {S : Sto}
theorem run_bent (f32 : P.fn 32 = some fd_law_bent_v0) (f31 : P.fn 31 = some fd_law_any_v0) (hd : P.fn 25 = some fd_law_draw_v0) : ∀ (m : Nat) (v : Wv) (B : Nat) (S : Sto), pl v = true → dep v ≤ m → wei v ≤ 50000 → Src l B S → B + 5 * (m + 1) ≤ 10 ^ 8 →
    ∃ r S', callN P (n + m + 3) 32 [.ref l, v] S = .ok r S' ∧ Rs v r ∧ Src l (B + 5 * (m + 1)) S' ∧ Drw l S S' := by
  intro m
  induction m with
  | zero =>
    intro v B S hv hm hw hs hB
    obtain ⟨r, S', e, rs, s', w'⟩ := run_flat (n := n) f31 hd hv hw hs (by omega)
    refine ⟨r, S', ?_, rs, s'.mono (by omega), w'⟩
    have nt : isTup v = false := by cases v <;> first | rfl | (simp [dep] at hm)
    have gv := pl_gd v hv
    rw [call_eq f32 rfl rfl (by decide)]
    have t1 : ev P (callN P (n + 2)) (.isi (.v 1) [.tuple]) [.ref l, v, .unb, .unb, .unb, .unb] S = .ok (.bl false) S := by
      rw [ev, ev_v rfl (gd_nu gv), R.bind_ok, isi_tup gv, nt]
      rfl
    show (exB P (callN P (n + 2)) [_, _, _, _, _, _] [.ref l, v, .unb, .unb, .unb, .unb] S).bind _ = _
    rw [exB_go ((if_f (ev_and' (evAll_f t1))).trans exB_nil), e, R.bind_ok]
    show R.ok r (sweep S.length r S') = _
    rw [sweep_same (Nat.le_of_eq w'.len)]
  | succ m ih =>
    intro v B S hv hm hw hs hB
    have gv := pl_gd v hv
    have e0 : n + (m + 1) + 3 = (n + m + 3) + 1 := by omega
    rw [e0, call_eq f32 rfl rfl (by decide)]
    -- the flat way, from any draw on
    have flat : ∀ (S1 : Sto), Drw l S S1 → Src l (B + 1) S1 → ev P (callN P (n + m + 3)) (.and [.isi (.v 1) [.tuple], .cmp .ne (.v 1) (.tup []), .cmp .gt (.fn 25 [.v 0, .k (.int 5)]) (.k (.int 0))]) [.ref l, v, .unb, .unb, .unb, .unb] S = .ok (.bl false) S1 →
        ∃ r S', (exB P (callN P (n + m + 3)) fd_law_bent_v0.body [.ref l, v, .unb, .unb, .unb, .unb] S).bind (fun f S1 => backF S.length f S1) = .ok r S' ∧ Rs v r ∧ Src l (B + 5 * (m + 1 + 1)) S' ∧ Drw l S S' := fun S1 w1 s1 t => by
      obtain ⟨r, S', e, rs, s', w'⟩ := run_flat (n := n + m + 1) f31 hd hv hw s1 (by omega)
      have w2 := w1.trans w'
      refine ⟨r, S', ?_, rs, s'.mono (by omega), w2⟩
      show (exB P (callN P (n + m + 3)) [_, _, _, _, _, _] [.ref l, v, .unb, .unb, .unb, .unb] S).bind _ = _
      rw [exB_go ((if_f t).trans exB_nil), e, R.bind_ok]
      show R.ok r (sweep S.length r S') = _
      rw [sweep_same (Nat.le_of_eq w2.len)]
    have t1 : ev P (callN P (n + m + 3)) (.isi (.v 1) [.tuple]) [.ref l, v, .unb, .unb, .unb, .unb] S = .ok (.bl (isTup v)) S := by
      rw [ev, ev_v rfl (gd_nu gv), R.bind_ok, isi_tup gv]
      rfl
    cases hT : isTup v with
    | false =>
      rw [hT] at t1
      exact flat S .rfl' (hs.mono (by omega)) (ev_and' (evAll_f t1))
    | true =>
      rw [hT] at t1
      obtain ⟨xs, rfl⟩ : ∃ xs, v = .tup xs := by
        cases v <;> first | exact ⟨_, rfl⟩ | cases hT
      have gx : gds xs = true := gv
      have t2 : ev P (callN P (n + m + 3)) (.cmp .ne (.v 1) (.tup [])) [.ref l, .tup xs, .unb, .unb, .unb, .unb] S = .ok (.bl (!xs.isEmpty)) S := by
        rw [ev, ev_v rfl (by simp), R.bind_ok, ev, evs, R.bind_ok, if_pos (show ([] : List Wv).length ≤ line from Nat.zero_le _), R.bind_ok, ne_nil gx]
        rfl
      cases hE : xs.isEmpty with
      | true =>
        rw [hE] at t2
        exact flat S .rfl' (hs.mono (by omega)) (ev_and' ((evAll_t t1).trans (evAll_f t2)))
      | false =>
        rw [hE] at t2
        obtain ⟨q, S1, e1, q0, q1, s1, w1⟩ := run_draw (n := n + m + 2) hd hs (by omega) (m := 5) (by decide) (by decide)
        have t3 : ev P (callN P (n + m + 3)) (.cmp .gt (.fn 25 [.v 0, .k (.int 5)]) (.k (.int 0))) [.ref l, .tup xs, .unb, .unb, .unb, .unb] S = .ok (.bl (decide (0 < q))) S1 := by
          rw [ev, ev_fn (evs_cons (ev_v rfl (by simp)) (evs_cons (by rw [ev]) rfl)) e1, R.bind_ok, ev, R.bind_ok, cmp_int_gt]
          rfl
        by_cases hq : 0 < q
        · rw [decide_eq_true hq] at t3
          have hne : 0 < xs.length := by
            cases xs with
            | nil => cases hE
            | cons => simp
          have lx : xs.length ≤ 50000 := Nat.le_trans (len_weis xs) hw
          obtain ⟨a, S2, e2, a0, a1, s2, w2⟩ := run_draw (n := n + m + 2) hd s1 (by omega) (m := (xs.length : Int)) (by omega) (by omega)
          obtain ⟨j, rfl⟩ : ∃ j : Nat, a = (j : Int) := ⟨a.toNat, by omega⟩
          have hj : j < xs.length := by omega
          have hxj : xs[j]? = some xs[j] := List.getElem?_eq_getElem hj
          have mem : xs[j] ∈ xs := List.getElem_mem hj
          have wj : wei xs[j] + 1 ≤ weis xs := weis_mem mem
          have wx : weis xs ≤ 50000 := hw
          have dj : dep xs[j] ≤ m := by
            have := deps_le.mp (Nat.le_refl (deps xs)) _ mem
            have h2 : deps xs + 1 ≤ m + 1 := hm
            omega
          have pj : pl xs[j] = true := pls_iff.mp (show pls xs = true from hv) _ mem
          obtain ⟨r, S3, e3, rs, s3, w3⟩ := ih xs[j] (B + 1 + 1) S2 pj dj (by omega) s2 (by omega)
          have w := (w1.trans w2).trans w3
          have ix := idx_tup (S := S2) (xs := xs) (k := (j : Int)) rfl hxj
          have q4 : exS P (callN P (n + m + 3)) (.asg (.nm 4) (.fn 25 [.v 0, .p1 .len (.v 1)])) [.ref l, .tup xs, .unb, .unb, .unb, .unb] S1 = .ok (.nx [.ref l, .tup xs, .unb, .unb, .int j, .unb]) S2 := by
            refine asg_ok (ev_fn (evs_cons (ev_v rfl (by simp)) (evs_cons (v := .int (xs.length : Int)) ?_ rfl)) e2) rfl
            rw [ev, ev_v rfl (by simp), R.bind_ok]
            rfl
          have lA : (xs.take j).length ≤ 50000 := by rw [List.length_take]; omega
          have lE : (xs.drop (j + 1)).length ≤ 50000 := by rw [List.length_drop]; omega
          have ej : ((j : Int) + 1) = ((j + 1 : Nat) : Int) := by omega
          have q5 : exS P (callN P (n + m + 3)) (.ret (.bin .add (.bin .add (.slc (.v 1) none (some (.v 4))) (.tup [.fn 32 [.v 0, .idx (.v 1) (.v 4)]])) (.slc (.v 1) (some (.bin .add (.v 4) (.k (.int 1)))) none))) [.ref l, .tup xs, .unb, .unb, .int j, .unb] S2 = .ok (.rt (.tup (xs.take j ++ [r] ++ xs.drop (j + 1)))) S3 := by
            refine ret_ok ?_
            have eA : ev P (callN P (n + m + 3)) (.slc (.v 1) none (some (.v 4))) [.ref l, .tup xs, .unb, .unb, .int j, .unb] S2 = .ok (.tup (xs.take j)) S2 := by
              rw [ev, ev_v rfl (by simp), R.bind_ok, evO, R.bind_ok, evO, ev_v rfl (by simp), R.bind_ok]
              show (R.of (some (some (j : Int))) S2).bind _ = _
              rw [R.of_some, R.bind_ok, slT_lo]
              rfl
            have eB : ev P (callN P (n + m + 3)) (.tup [.fn 32 [.v 0, .idx (.v 1) (.v 4)]]) [.ref l, .tup xs, .unb, .unb, .int j, .unb] S2 = .ok (.tup [r]) S3 := by
              rw [ev, evs_cons (ev_fn (evs_cons (ev_v rfl (by simp)) (evs_cons (v := xs[j]) (by rw [ev, ev_v rfl (by simp), R.bind_ok, ev_v rfl (by simp), R.bind_ok, ix]; rfl) rfl)) e3) rfl, R.bind_ok, if_pos (show [r].length ≤ line from (by decide : 1 ≤ line))]
            have eE : ev P (callN P (n + m + 3)) (.slc (.v 1) (some (.bin .add (.v 4) (.k (.int 1)))) none) [.ref l, .tup xs, .unb, .unb, .int j, .unb] S3 = .ok (.tup (xs.drop (j + 1))) S3 := by
              rw [ev, ev_v rfl (by simp), R.bind_ok, evO, ev, ev_v rfl (by simp), R.bind_ok, ev, R.bind_ok, add_ok, R.of_some, R.bind_ok]
              show ((R.of (some (some ((j : Int) + 1))) S3).bind _) = _
              rw [R.of_some, R.bind_ok, evO, R.bind_ok, ej, slT_hi]
              rfl
            rw [ev, ev, eA, R.bind_ok, eB, R.bind_ok, add_tup (by rw [List.length_singleton]; omega), R.of_some, R.bind_ok, eE, R.bind_ok, add_tup (by rw [List.length_append, List.length_singleton]; omega)]
            rfl
          refine ⟨.tup (xs.take j ++ [r] ++ xs.drop (j + 1)), S3, ?_, ?_, s3.mono (by omega), w⟩
          · show (exB P (callN P (n + m + 3)) [_, _, _, _, _, _] [.ref l, .tup xs, .unb, .unb, .unb, .unb] S).bind _ = _
            rw [exB_rt ((if_t (ev_and' ((evAll_t t1).trans ((evAll_t t2).trans ((evAll_t t3).trans rfl))))).trans ((exB_go q4).trans (exB_rt q5))), R.bind_ok]
            show R.ok _ (sweep S.length _ S3) = _
            rw [sweep_same (Nat.le_of_eq w.len)]
          · have gx' := gds_iff.mp gx
            have dx := deps_le.mp (Nat.le_refl (deps xs))
            refine ⟨gds_iff.mpr fun y hy => ?_, ?_, ?_⟩
            · rcases List.mem_append.mp hy with hy | hy
              · rcases List.mem_append.mp hy with hy | hy
                · exact gx' y (List.mem_of_mem_take hy)
                · rw [List.mem_singleton.mp hy]
                  exact rs.g
              · exact gx' y (List.mem_of_mem_drop hy)
            · have h1 : deps (xs.take j ++ [r] ++ xs.drop (j + 1)) ≤ deps xs + 5 := deps_le.mpr fun y hy => by
                rcases List.mem_append.mp hy with hy | hy
                · rcases List.mem_append.mp hy with hy | hy
                  · have := dx y (List.mem_of_mem_take hy)
                    omega
                  · rw [List.mem_singleton.mp hy]
                    have h1 := rs.d
                    have h2 := dx _ mem
                    omega
                · have := dx y (List.mem_of_mem_drop hy)
                  omega
              show deps _ + 1 ≤ deps xs + 1 + 5
              omega
            · have h1 := weis_take j xs
              have h2 : weis (xs.drop j) = wei xs[j] + 1 + weis (xs.drop (j + 1)) := by
                rw [List.drop_eq_getElem_cons hj]
                rfl
              have h3 := rs.w
              show weis _ ≤ 2 * weis xs + 1000
              rw [weis_app, weis_app]
              simp only [weis]
              omega
        · rw [decide_eq_false hq] at t3
          exact flat S1 w1 s1 (ev_and' ((evAll_t t1).trans ((evAll_t t2).trans (evAll_f t3))))
theorem KAt.keep {s : Nat} {ls : List Str} {S S' : Sto} (h : KAt S s ls) (hs : Src l B S) (k : ∀ j, j < S.length → j ≠ l → S'[j]? = S[j]?) : KAt S' s ls := by
  obtain ⟨a, b, ov, h1, h2, h3⟩ := h
  obtain ⟨p, q, q1, _⟩ := hs
  have n1 : s ≠ l := fun e => by rw [e, q1] at h1; cases h1
  have n2 : b ≠ l := fun e => by rw [e, q1] at h2; cases h2
  exact ⟨a, b, ov, by rw [k s (List.getElem?_eq_some_iff.mp h1).1 n1, h1], by rw [k b (List.getElem?_eq_some_iff.mp h2).1 n2, h2], h3⟩
theorem ne_same {x : Str} : cmpW .ne S (.str x) (.str x) = some false := by
  show (some (decide (x = x))).map not = _
  simp
end Pe

set_option Elab.async false
set_option linter.all false
set_option maxRecDepth 100000
set_option maxHeartbeats 4000000
/-! Runs: is_form, two ways. -/
namespace Pe
open PySem L2
variable {P : Pg} {n l B : Nat} {S : Sto}
def fd_law_random_form : Fd := ⟨4, 8, false, [.ite (.or [.cmp .eq (.v 3) (.k (.int 0)), .cmp .eq (.fn 25 [.v 0, .k (.int 3)]) (.k (.int 0))]) [.ret (.ite (.v 2) (.k (.str "*")) (.idx (.v 1) (.fn 25 [.v 0, .p1 .len (.v 1)])))] [], .asg (.nm 4) (.bin .add (.k (.int 1)) (.fn 25 [.v 0, .idx (.dsp false [.k (.int 3), .k (.int 3), .k (.int 2)]) (.v 3)])), .asg (.nm 5) (.fn 25 [.v 0, .v 4]), .asg (.nm 6) (.lc false [7] (.nm 7) (.rng [.v 4]) [] (.fn 40 [.v 0, .v 1, .and [.v 2, .cmp .eq (.v 7) (.v 5)], .bin .sub (.v 3) (.k (.int 1))])), .ret (.tup [.idx (.dsp false [.k (.str ""), .k (.str "note"), .k (.str "x")]) (.fn 25 [.v 0, .k (.int 3)]), .p1 .tuple (.v 6)])]⟩
def fd_law_any_v1 : Fd := ⟨1, 2, false, [.asg (.nm 1) (.dsp false [.k (.non), .k (.bl true), .k (.int 0), .k (.int 3), .k (.str ""), .k (.str "*"), .k (.str "**"), .k (.str "a"), .k (.str "A"), .k (.str "zzzz"), .tup [], .dsp false [], .tup [.k (.str ""), .tup []], .tup [.k (.str "*")], .tup [.k (.str "m"), .tup [.k (.str "*")]], .dsp false [.k (.str "m"), .tup [.k (.str "*")]]]), .asg (.nm 1) (.bin .add (.v 1) (.dsp false [.tup [.k (.str "m"), .dsp false [.k (.str "*")]], .tup [.k (.str "m"), .k (.str "*")], .tup [.k (.str "M"), .tup [.k (.str "*")]], .tup [.k (.str "*"), .tup [.k (.str "*")]], .tup [.k (.str "m"), .tup [.tup [.k (.str "m"), .tup []]]], .tup [.k (.str ""), .tup [.k (.str "*"), .k (.str "*")]]])), .ret (.idx (.v 1) (.fn 25 [.v 0, .k (.int 22)]))]⟩
def fd_law_bent_v1 : Fd := ⟨2, 6, false, [.ite (.and [.isi (.v 1) [.tuple], .cmp .ne (.v 1) (.tup []), .cmp .gt (.fn 25 [.v 0, .k (.int 5)]) (.k (.int 0))]) [.asg (.nm 4) (.fn 25 [.v 0, .p1 .len (.v 1)]), .ret (.bin .add (.bin .add (.slc (.v 1) none (some (.v 4))) (.tup [.fn 32 [.v 0, .idx (.v 1) (.v 4)]])) (.slc (.v 1) (some (.bin .add (.v 4) (.k (.int 1)))) none))] [], .par 2 3 (.fn 31 [.v 0]) (.fn 25 [.v 0, .k (.int 7)]), .ite (.and [.isi (.v 1) [.tuple], .cmp .lt (.v 3) (.k (.int 5))]) [.asg (.nm 4) (.fn 25 [.v 0, .bin .add (.p1 .len (.v 1)) (.k (.int 1))]), .asg (.nm 5) (.dsp false [.lst false (.v 1), .bin .add (.slc (.v 1) none (some (.v 4))) (.slc (.v 1) (some (.bin .add (.v 4) (.k (.int 1)))) none), .bin .add (.bin .add (.slc (.v 1) none (some (.v 4))) (.tup [.v 2])) (.slc (.v 1) (some (.v 4)) none), .rev false (.v 1)]), .ret (.idx (.bin .add (.v 5) (.dsp false [.bin .add (.slc (.v 1) none (some (.bin .add (.v 4) (.k (.int 1))))) (.slc (.v 1) (some (.v 4)) none)])) (.v 3))] [], .ite (.and [.isi (.v 1) [.str], .cmp .lt (.v 3) (.k (.int 4))]) [.ret (.idx (.dsp false [.bin .add (.v 1) (.k (.str "x")), .p1 .upper (.v 1), .slc (.v 1) (some (.k (.int 1))) none, .k (.str "*")]) (.v 3))] [], .ret (.v 2)]⟩
def fd_law_stars : Fd := ⟨2, 4, false, [.ite (.isi (.v 1) [.str]) [.ret (.ite (.cmp .eq (.v 1) (.k (.str "*"))) (.k (.int 1)) (.idx (.dsp false [.k (.non), .k (.int 0)]) (.p1 .int (.cmp .isin (.v 1) (.v 0)))))] [], .ite (.or [.not (.isi (.v 1) [.tuple]), .cmp .ne (.p1 .len (.v 1)) (.k (.int 2)), .not (.fn 33 [.idx (.v 1) (.k (.int 0))])]) [.ret (.k (.non))] [], .ite (.or [.not (.isi (.idx (.v 1) (.k (.int 1))) [.tuple]), .cmp .eq (.idx (.v 1) (.k (.int 1))) (.tup [])]) [.ret (.k (.non))] [], .asg (.nm 2) (.lc false [3] (.nm 3) (.any (.idx (.v 1) (.k (.int 1)))) [] (.fn 43 [.v 0, .v 3])), .ret (.ite (.cmp .isin (.k (.non)) (.v 2)) (.k (.non)) (.p1 .sum (.v 2)))]⟩
def fd_is_form : Fd := ⟨2, 2, false, [.ret (.and [.fn 37 [.v 0, .v 1], .cmp .le (.fn 38 [.v 1]) (.k (.int 1))])]⟩
def fd_is_part : Fd := ⟨2, 3, false, [.ite (.not (.fn 36 [.v 1])) [.ret (.and [.isi (.v 1) [.str], .or [.cmp .eq (.v 1) (.k (.str "*")), .mth 9 (.v 0) [.v 1]]])] [], .ite (.or [.not (.fn 7 [.idx (.v 1) (.k (.int 0))]), .not (.isi (.idx (.v 1) (.k (.int 1))) [.tuple]), .cmp .eq (.idx (.v 1) (.k (.int 1))) (.tup [])]) [.ret (.k (.bl false))] [], .ret (.p1 .all (.lc false [2] (.nm 2) (.any (.idx (.v 1) (.k (.int 1)))) [] (.fn 37 [.v 0, .v 2])))]⟩
def fd_is_pair : Fd := ⟨1, 1, false, [.ret (.and [.isi (.v 0) [.tuple], .cmp .eq (.p1 .len (.v 0)) (.k (.int 2))])]⟩
def fd_count_stars : Fd := ⟨1, 2, false, [.ite (.isi (.v 0) [.str]) [.ret (.p1 .int (.cmp .eq (.v 0) (.k (.str "*"))))] [], .ret (.p1 .sum (.lc false [1] (.nm 1) (.any (.idx (.v 0) (.k (.int 1)))) [] (.fn 38 [.v 1])))]⟩
abbrev STAR : Str := "*"
mutual
/-- how many stars a form has; none if it is no form -/
def fs (ls : List Str) : Wv → Option Nat
  | .str x => if x = STAR then some 1 else if x ∈ ls then some 0 else none
  | .tup xs => fs2 ls xs
  | _ => none
def fs2 (ls : List Str) : List Wv → Option Nat
  | [] => none
  | a :: r => fs3 ls a r
def fs3 (ls : List Str) (a : Wv) : List Wv → Option Nat
  | [] => none
  | b :: r => if (r.isEmpty && isM a) = true then fsB ls b else none
def fsB (ls : List Str) : Wv → Option Nat
  | .tup xs => if xs.isEmpty = true then none else fss ls xs
  | _ => none
def fss (ls : List Str) : List Wv → Option Nat
  | [] => some 0
  | x :: xs => match fs ls x, fss ls xs with
    | some m, some n => some (m + n)
    | _, _ => none
end
theorem fs_2 {ls : List Str} {a b : Wv} : fs ls (.tup [a, b]) = if isM a = true then fsB ls b else none := by
  rw [fs, fs2, fs3]
  rfl
theorem fsB_no {ls : List Str} {b : Wv} (h : isTup b = false) : fsB ls b = none := by
  cases b <;> first | rfl | cases h
structure HasF (P : Pg) : Prop where
  m : HasM P
  f36 : P.fn 36 = some fd_is_pair
  f37 : P.fn 37 = some fd_is_part
  f38 : P.fn 38 = some fd_count_stars
  f39 : P.fn 39 = some fd_is_form
  f43 : P.fn 43 = some fd_law_stars
def isPr : Wv → Bool
  | .tup [_, _] => true
  | _ => false
theorem run_pair (H : HasF P) {v : Wv} (hv : gd v = true) : callN P (n + 1) 36 [v] S = .ok (.bl (isPr v)) S := by
  rw [call_eq H.f36 rfl rfl (by decide)]
  have g0 : ∀ S : Sto, getV [v] 0 S = .ok v S := fun S => g1 hv
  cases v <;> first | (simp [gd] at hv; done) | (simp [fd_is_pair, g0, isPr, isAny, isTy, sweep_same]; done) | skip
  rename_i xs
  match xs, g0 with
  | [], g0 => simp [fd_is_pair, g0, isPr, isAny, isTy, pr1, sweep_same]
  | [a], g0 => simp [fd_is_pair, g0, isPr, isAny, isTy, pr1, sweep_same]
  | [a, b], g0 => simp [fd_is_pair, g0, isPr, isAny, isTy, pr1, sweep_same]
  | a :: b :: c :: r, g0 =>
    have h2 : ¬ ((r.length : Int) + 1 + 1 + 1 = 2) := by omega
    simp [fd_is_pair, g0, isPr, isAny, isTy, pr1, h2, sweep_same]
/-- one path of a def that answers without more ado -/
theorem done_rt {P : Pg} {F : Fo} {b : List Pe.S} {r : Ev} {v : Wv} {S : Sto} (h : exB P F b r S = .ok (.rt v) S) : (exB P F b r S).bind (fun f S1 => backF S.length f S1) = .ok v S := by
  rw [h, R.bind_ok]
  show R.ok v (sweep S.length v S) = _
  rw [sweep_same (Nat.le_refl _)]
theorem fss_all (ls : List Str) : ∀ xs : List Wv, (fss ls xs).isSome = xs.all fun x => (fs ls x).isSome
  | [] => rfl
  | x :: xs => by
    rw [List.all_cons, ← fss_all ls xs, fss]
    cases fs ls x <;> cases fss ls xs <;> rfl
theorem run_part (H : HasF P) {s : Nat} {ls : List Str} (hk : KAt S s ls) : ∀ (m k : Nat) (v : Wv), gd v = true → wei v ≤ 200000 → dep v ≤ m → m + 3 ≤ k → callN P k 37 [.ref s, v] S = .ok (.bl (fs ls v).isSome) S := by
  intro m
  induction m using Nat.strongRecOn with
  | _ m ih =>
    intro k v hv hw hd hm
    obtain ⟨n, rfl⟩ : ∃ n, k = n + 3 := ⟨k - 3, by omega⟩
    rw [call_eq H.f37 rfl rfl (by decide)]
    have nu := gd_nu hv
    have e36 := run_pair (n := n + 1) (S := S) H hv
    have v1 : ev P (callN P (n + 2)) (.v 1) [.ref s, v, .unb] S = .ok v S := ev_v rfl nu
    have t0 : ev P (callN P (n + 2)) (.not (.fn 36 [.v 1])) [.ref s, v, .unb] S = .ok (.bl (!isPr v)) S := ev_not' (ev_fn (evs_cons v1 rfl) e36)
    show (exB P (callN P (n + 2)) [_, _, _] [.ref s, v, .unb] S).bind _ = _
    cases hp : isPr v with
    | false =>
      rw [hp] at t0
      have es := isi_s (S := S) hv
      have i1 : ev P (callN P (n + 2)) (.isi (.v 1) [.str]) [.ref s, v, .unb] S = .ok (.bl (isS v)) S := by
        rw [ev, v1, R.bind_ok, es]
        rfl
      have mm : methOf P S (.ref s) 9 = some 18 := by
        obtain ⟨q1, q2, q3, q4, _⟩ := hk
        unfold methOf
        simp only [q4]
        exact H.m.m9
      have e18 := run_has (n := n + 1) (S := S) H.m.toHasM0 hv hk
      refine done_rt (exB_rt ((if_t t0).trans (exB_rt (ret_ok ?_))))
      cases hs : isS v with
      | false =>
        rw [hs] at i1
        have : fs ls v = none := by
          cases v <;> first | rfl | (cases hs; done) | skip
          rename_i xs
          match xs, hp with
          | [], _ => rfl
          | [a], _ => rfl
          | [a, b], hp => cases hp
          | a :: b :: c :: r, _ => rfl
        rw [this]
        exact ev_and' (evAll_f i1)
      | true =>
        rw [hs] at i1
        obtain ⟨x, rfl⟩ : ∃ x, v = .str x := by cases v <;> first | exact ⟨_, rfl⟩ | cases hs
        have c1 : ev P (callN P (n + 2)) (.cmp .eq (.v 1) (.k (.str "*"))) [.ref s, .str x, .unb] S = .ok (.bl (decide (x = STAR))) S := by
          rw [ev, v1, R.bind_ok, ev, R.bind_ok, eq_str]
          rfl
        have c2 : ev P (callN P (n + 2)) (.mth 9 (.v 0) [.v 1]) [.ref s, .str x, .unb] S = .ok (.bl (inL ls (.str x))) S := by
          rw [ev, ev_v rfl (by simp), R.bind_ok, mm]
          dsimp only
          rw [evs_cons v1 rfl, R.bind_ok, e18]
        refine ev_and' ((evAll_t i1).trans ?_)
        rw [fs]
        by_cases hx : x = STAR
        · rw [decide_eq_true hx] at c1
          rw [if_pos hx]
          exact (evAll_t (ev_or' (evAny_t c1))).trans rfl
        · rw [decide_eq_false hx] at c1
          rw [if_neg hx]
          have e : inL ls (.str x) = decide (x ∈ ls) := rfl
          rw [e] at c2
          by_cases hl : x ∈ ls
          · rw [decide_eq_true hl] at c2
            rw [if_pos hl]
            exact (evAll_t (ev_or' ((evAny_f c1).trans (evAny_t c2)))).trans rfl
          · rw [decide_eq_false hl] at c2
            rw [if_neg hl]
            exact evAll_f (ev_or' ((evAny_f c1).trans ((evAny_f c2).trans rfl)))
    | true =>
      rw [hp] at t0
      obtain ⟨a, b, rfl⟩ : ∃ a b, v = .tup [a, b] := by
        cases v <;> first | (cases hp; done) | skip
        rename_i xs
        match xs, hp with
        | [a, b], _ => exact ⟨a, b, rfl⟩
      obtain ⟨ha, hb⟩ := gd2 hv
      have wa : wei a ≤ 200000 := by simp only [wei, weis] at hw; omega
      have wb : wei b ≤ 200000 := by simp only [wei, weis] at hw; omega
      rw [fs_2, exB_go ((if_f t0).trans exB_nil)]
      have e7 := run_msg (n := n) (S := S) H.m.toHasM0 ha wa
      have c1 : ev P (callN P (n + 2)) (.not (.fn 7 [.idx (.v 1) (.k (.int 0))])) [.ref s, .tup [a, b], .unb] S = .ok (.bl (!isM a)) S := by
        refine ev_not' (ev_fn (evs_cons (v := a) ?_ rfl) e7)
        rw [ev, v1, R.bind_ok, ev, R.bind_ok, idx0]
        rfl
      have vb : ev P (callN P (n + 2)) (.idx (.v 1) (.k (.int 1))) [.ref s, .tup [a, b], .unb] S = .ok b S := by
        rw [ev, v1, R.bind_ok, ev, R.bind_ok, idx1]
        rfl
      have c2 : ev P (callN P (n + 2)) (.not (.isi (.idx (.v 1) (.k (.int 1))) [.tuple])) [.ref s, .tup [a, b], .unb] S = .ok (.bl (!isTup b)) S := by
        refine ev_not' ?_
        rw [ev, vb, R.bind_ok, isi_tup hb]
        rfl
      have no : exB P (callN P (n + 2)) [.ret (.k (.bl false))] [.ref s, .tup [a, b], .unb] S = .ok (.rt (.bl false)) S := exB_rt (ret_ok (by rw [ev]))
      cases hM : isM a with
      | false =>
        rw [hM] at c1
        exact done_rt (exB_rt ((if_t (ev_or' (evAny_t c1))).trans no))
      | true =>
        rw [hM] at c1
        rw [if_pos rfl]
        cases hT : isTup b with
        | false =>
          rw [hT] at c2
          rw [fsB_no hT]
          exact done_rt (exB_rt ((if_t (ev_or' ((evAny_f c1).trans (evAny_t c2)))).trans no))
        | true =>
          rw [hT] at c2
          obtain ⟨xs, rfl⟩ : ∃ xs, b = .tup xs := by cases b <;> first | exact ⟨_, rfl⟩ | cases hT
          have gx : gds xs = true := hb
          have c3 : ev P (callN P (n + 2)) (.cmp .eq (.idx (.v 1) (.k (.int 1))) (.tup [])) [.ref s, .tup [a, .tup xs], .unb] S = .ok (.bl xs.isEmpty) S := by
            rw [ev, vb, R.bind_ok, ev, evs, R.bind_ok, if_pos (show ([] : List Wv).length ≤ line from Nat.zero_le _), R.bind_ok, eq_nil gx]
            rfl
          rw [fsB]
          cases hE : xs.isEmpty with
          | true =>
            rw [hE] at c3
            rw [if_pos rfl]
            exact done_rt (exB_rt ((if_t (ev_or' ((evAny_f c1).trans ((evAny_f c2).trans (evAny_t c3))))).trans no))
          | false =>
            rw [hE] at c3
            rw [if_neg Bool.false_ne_true, exB_go ((if_f (ev_or' ((evAny_f c1).trans ((evAny_f c2).trans ((evAny_f c3).trans rfl))))).trans exB_nil)]
            have hi : evI P (callN P (n + 2)) (.any (.idx (.v 1) (.k (.int 1)))) [.ref s, .tup [a, .tup xs], .unb] S = .ok ⟨xs, none⟩ S := by
              rw [evI, vb, R.bind_ok]
              rfl
            have w2 : weis xs ≤ 200000 := wb
            have lx : xs.length ≤ line := Nat.le_trans (Nat.le_trans (len_weis xs) w2) (by decide)
            have hdx : deps xs + 2 ≤ m := by
              simp only [dep, deps] at hd
              omega
            have e := lc_map (bx := false) (own := [2]) (g := .nm 2) (cond := []) (e := .fn 37 [.v 0, .v 2]) hi lx (fun x => .bl (fs ls x).isSome) rfl (fun y hy => by
              have gy := gds_iff.mp gx y hy
              have wy : wei y + 1 ≤ weis xs := weis_mem hy
              have dy : dep y ≤ deps xs := deps_le.mp (Nat.le_refl _) y hy
              have e := ih (m - 2) (by omega) (n + 2) y gy (by omega) (by omega) (by omega)
              refine ⟨[.ref s, .tup [a, .tup xs], y], rfl, rfl, ?_⟩
              exact ev_fn (evs_cons (ev_v rfl (by simp)) (evs_cons (ev_v rfl (gd_nu gy)) rfl)) e)
            refine done_rt (exB_rt (ret_ok ?_))
            rw [ev, e, newL_f (by rw [List.length_map]; exact lx), R.bind_ok, all_ok, fss_all]
            rfl
end Pe

set_option Elab.async false
set_option linter.all false
set_option maxRecDepth 100000
set_option maxHeartbeats 4000000
/-! Runs: stars are counted. -/
namespace Pe
open PySem L2
variable {P : Pg} {n l B : Nat} {S : Sto}
theorem fss_some {ls : List Str} : ∀ {xs : List Wv} {c : Nat}, fss ls xs = some c → (∀ x ∈ xs, ∃ m, fs ls x = some m) ∧ (xs.map fun x => (((fs ls x).getD 0 : Nat) : Int)).sum = c
  | [], c, h => by
    cases h
    exact ⟨by simp, rfl⟩
  | x :: xs, c, h => by
    rw [fss] at h
    cases hx : fs ls x with
    | none => rw [hx] at h; cases h
    | some m =>
      cases hs : fss ls xs with
      | none => rw [hx, hs] at h; cases h
      | some k =>
        rw [hx, hs] at h
        cases h
        obtain ⟨h1, h2⟩ := fss_some hs
        refine ⟨fun y hy => ?_, ?_⟩
        · rcases List.mem_cons.mp hy with rfl | hy
          · exact ⟨m, hx⟩
          · exact h1 y hy
        · rw [List.map_cons, List.sum_cons, h2, hx]
          show ((m : Nat) : Int) + k = _
          omega
theorem ints_map {α : Type} (f : α → Int) : ∀ xs : List α, intsOf (xs.map fun x => Wv.int (f x)) = some (xs.map f)
  | [] => rfl
  | x :: xs => by
    show (intsOf (xs.map fun x => Wv.int (f x))).map _ = _
    rw [ints_map f xs]
    rfl
theorem sum_ok {α : Type} {f : α → Int} {xs : List α} : pr1 .sum S (.lst (xs.map fun x => .int (f x))) = some (.int (xs.map f).sum) := by
  show (intsOf (xs.map fun x => Wv.int (f x))).map _ = _
  rw [ints_map]
  rfl
theorem fs_tup {ls : List Str} {xs : List Wv} {c : Nat} (h : fs ls (.tup xs) = some c) : ∃ a ys, xs = [a, .tup ys] ∧ isM a = true ∧ ys.isEmpty = false ∧ fss ls ys = some c := by
  match xs, h with
  | [], h => cases h
  | [a], h => cases h
  | a :: b :: d :: r, h =>
    rw [fs, fs2, fs3] at h
    cases h
  | [a, b], h =>
    rw [fs_2] at h
    split at h
    · rename_i hM
      cases hT : isTup b with
      | false => rw [fsB_no hT] at h; cases h
      | true =>
        obtain ⟨ys, rfl⟩ : ∃ ys, b = .tup ys := by cases b <;> first | exact ⟨_, rfl⟩ | cases hT
        rw [fsB] at h
        split at h
        · cases h
        · rename_i hE
          exact ⟨a, ys, rfl, hM, by simpa using hE, h⟩
    · cases h
theorem run_count (H : HasF P) {ls : List Str} : ∀ (m k : Nat) (v : Wv) (c : Nat), fs ls v = some c → gd v = true → wei v ≤ 200000 → dep v ≤ m → m + 1 ≤ k → callN P k 38 [v] S = .ok (.int c) S := by
  intro m
  induction m using Nat.strongRecOn with
  | _ m ih =>
    intro k v c hc hv hw hd hm
    obtain ⟨n, rfl⟩ : ∃ n, k = n + 1 := ⟨k - 1, by omega⟩
    rw [call_eq H.f38 rfl rfl (by decide)]
    have nu := gd_nu hv
    have v0 : ev P (callN P n) (.v 0) [v, .unb] S = .ok v S := ev_v rfl nu
    have es := isi_s (S := S) hv
    have i1 : ev P (callN P n) (.isi (.v 0) [.str]) [v, .unb] S = .ok (.bl (isS v)) S := by
      rw [ev, v0, R.bind_ok, es]
      rfl
    show (exB P (callN P n) [_, _] [v, .unb] S).bind _ = _
    cases hs : isS v with
    | true =>
      rw [hs] at i1
      obtain ⟨x, rfl⟩ : ∃ x, v = .str x := by cases v <;> first | exact ⟨_, rfl⟩ | cases hs
      refine done_rt (exB_rt ((if_t i1).trans (exB_rt (ret_ok ?_))))
      rw [ev, ev, v0, R.bind_ok, ev, R.bind_ok, eq_str]
      rw [fs] at hc
      by_cases hx : x = STAR
      · rw [if_pos hx] at hc
        cases hc
        have : decide (x = (("*" : String) : Str)) = true := decide_eq_true hx
        rw [this]
        rfl
      · rw [if_neg hx] at hc
        split at hc
        · cases hc
          have : decide (x = (("*" : String) : Str)) = false := decide_eq_false hx
          rw [this]
          rfl
        · cases hc
    | false =>
      rw [hs] at i1
      obtain ⟨xs, rfl⟩ : ∃ xs, v = .tup xs := by cases v <;> first | exact ⟨_, rfl⟩ | (cases hs; done) | (cases hc; done)
      obtain ⟨a, ys, rfl, hM, hE, hf⟩ := fs_tup hc
      obtain ⟨f1, f2⟩ := fss_some hf
      obtain ⟨ha, hb⟩ := gd2 hv
      have gx : gds ys = true := hb
      have w2 : weis ys ≤ 200000 := by simp only [wei, weis] at hw; omega
      have lx : ys.length ≤ line := Nat.le_trans (Nat.le_trans (len_weis ys) w2) (by decide)
      have hdx : deps ys + 2 ≤ m := by
        simp only [dep, deps] at hd
        omega
      have hi : evI P (callN P n) (.any (.idx (.v 0) (.k (.int 1)))) [.tup [a, .tup ys], .unb] S = .ok ⟨ys, none⟩ S := by
        rw [evI, ev, v0, R.bind_ok, ev, R.bind_ok, idx1]
        rfl
      have e := lc_map (bx := false) (own := [1]) (g := .nm 1) (cond := []) (e := .fn 38 [.v 1]) hi lx (fun x => .int (((fs ls x).getD 0 : Nat) : Int)) rfl (fun y hy => by
        have gy := gds_iff.mp gx y hy
        have wy : wei y + 1 ≤ weis ys := weis_mem hy
        have dy : dep y ≤ deps ys := deps_le.mp (Nat.le_refl _) y hy
        obtain ⟨q, hq⟩ := f1 y hy
        have e := ih (m - 2) (by omega) n y q hq gy (by omega) (by omega) (by omega)
        refine ⟨[.tup [a, .tup ys], y], rfl, rfl, ?_⟩
        rw [hq]
        exact ev_fn (evs_cons (ev_v rfl (gd_nu gy)) rfl) e)
      rw [exB_go ((if_f i1).trans exB_nil)]
      refine done_rt (exB_rt (ret_ok ?_))
      rw [ev, e, newL_f (by rw [List.length_map]; exact lx), R.bind_ok, sum_ok, f2]
      rfl
def okF : Option Nat → Bool
  | some n => decide (n ≤ 1)
  | none => false
theorem run_form (H : HasF P) {s : Nat} {ls : List Str} (hk : KAt S s ls) {m k : Nat} {v : Wv} (hv : gd v = true) (hw : wei v ≤ 200000) (hd : dep v ≤ m) (hm : m + 4 ≤ k) : callN P k 39 [.ref s, v] S = .ok (.bl (okF (fs ls v))) S := by
  obtain ⟨n, rfl⟩ : ∃ n, k = n + 1 := ⟨k - 1, by omega⟩
  rw [call_eq H.f39 rfl rfl (by decide)]
  have nu := gd_nu hv
  have e37 := run_part (S := S) H hk m n v hv hw hd (by omega)
  have c1 : ev P (callN P n) (.fn 37 [.v 0, .v 1]) [.ref s, v] S = .ok (.bl (fs ls v).isSome) S := ev_fn (evs_cons (ev_v rfl (by simp)) (evs_cons (ev_v rfl nu) rfl)) e37
  show (exB P (callN P n) [_] [.ref s, v] S).bind _ = _
  refine done_rt (exB_rt (ret_ok ?_))
  cases hc : fs ls v with
  | none =>
    rw [hc] at c1
    exact ev_and' (evAll_f c1)
  | some c =>
    rw [hc] at c1
    have e38 := run_count (S := S) H m n v c hc hv hw hd (by omega)
    have c2 : ev P (callN P n) (.cmp .le (.fn 38 [.v 1]) (.k (.int 1))) [.ref s, v] S = .ok (.bl (decide (c ≤ 1))) S := by
      rw [ev, ev_fn (evs_cons (ev_v rfl nu) rfl) e38, R.bind_ok, ev, R.bind_ok, cmp_int_le]
      have : decide ((c : Int) ≤ 1) = decide (c ≤ 1) := decide_eq_decide.mpr (by omega)
      rw [this]
      rfl
    refine ev_and' ((evAll_t c1).trans ?_)
    show _ = R.ok (decide (c ≤ 1)) S
    cases hq : decide (c ≤ 1) with
    | true => rw [hq] at c2; exact (evAll_t c2).trans rfl
    | false => rw [hq] at c2; exact evAll_f c2
def oN : Option Nat → Wv
  | none => .non
  | some n => .int n
theorem oN_flat : ∀ xs : List (Option Nat), (xs.map oN).all flatW = true
  | [] => rfl
  | x :: xs => by
    rw [List.map_cons, List.all_cons, oN_flat xs]
    cases x <;> rfl
theorem oN_any : ∀ xs : List (Option Nat), ((xs.map oN).any fun y => eqF y .non) = xs.any Option.isNone
  | [] => rfl
  | x :: xs => by
    rw [List.map_cons, List.any_cons, List.any_cons, oN_any xs]
    cases x <;> rfl
theorem in_none {xs : List (Option Nat)} : inW S .non (.lst (xs.map oN)) = some (xs.any Option.isNone) := by
  show (if flatW .non = true ∧ (xs.map oN).all flatW = true then some ((xs.map oN).any fun y => eqF y .non) else _) = _
  rw [if_pos ⟨rfl, oN_flat xs⟩, oN_any]
theorem fss_none {ls : List Str} : ∀ xs : List Wv, ((xs.map (fs ls)).any Option.isNone) = (fss ls xs).isNone
  | [] => rfl
  | x :: xs => by
    rw [List.map_cons, List.any_cons, fss_none xs, fss]
    cases fs ls x <;> cases fss ls xs <;> rfl
theorem run_stars (H : HasF P) {ls : List Str} : ∀ (m k : Nat) (v : Wv), gd v = true → wei v ≤ 200000 → dep v ≤ m → m + 3 ≤ k → callN P k 43 [.lst (stl ls), v] S = .ok (oN (fs ls v)) S := by
  intro m
  induction m using Nat.strongRecOn with
  | _ m ih =>
    intro k v hv hw hd hm
    obtain ⟨n, rfl⟩ : ∃ n, k = n + 3 := ⟨k - 3, by omega⟩
    rw [call_eq H.f43 rfl rfl (by decide)]
    have nu := gd_nu hv
    have v1 : ev P (callN P (n + 2)) (.v 1) [.lst (stl ls), v, .unb, .unb] S = .ok v S := ev_v rfl nu
    have es := isi_s (S := S) hv
    have i1 : ev P (callN P (n + 2)) (.isi (.v 1) [.str]) [.lst (stl ls), v, .unb, .unb] S = .ok (.bl (isS v)) S := by
      rw [ev, v1, R.bind_ok, es]
      rfl
    show (exB P (callN P (n + 2)) [_, _, _, _, _] [.lst (stl ls), v, .unb, .unb] S).bind _ = _
    cases hs : isS v with
    | true =>
      rw [hs] at i1
      obtain ⟨x, rfl⟩ : ∃ x, v = .str x := by cases v <;> first | exact ⟨_, rfl⟩ | cases hs
      refine done_rt (exB_rt ((if_t i1).trans (exB_rt (ret_ok ?_))))
      have c1 : ev P (callN P (n + 2)) (.cmp .eq (.v 1) (.k (.str "*"))) [.lst (stl ls), .str x, .unb, .unb] S = .ok (.bl (decide (x = STAR))) S := by
        rw [ev, v1, R.bind_ok, ev, R.bind_ok, eq_str]
        rfl
      have c2 : ev P (callN P (n + 2)) (.p1 .int (.cmp .isin (.v 1) (.v 0))) [.lst (stl ls), .str x, .unb, .unb] S = .ok (.int (if decide (x ∈ ls) = true then 1 else 0)) S := by
        rw [ev, ev, v1, R.bind_ok, ev_v rfl (by simp), R.bind_ok]
        show ((R.of ((inW S (.str x) (.lst (stl ls))).map Wv.bl) S).bind _) = _
        rw [in_lst]
        cases decide (x ∈ ls) <;> rfl
      rw [ev, c1, R.bind_ok, asBool, R.bind_ok, fs]
      by_cases hx : x = STAR
      · rw [if_pos (decide_eq_true hx), if_pos hx, ev]
        rfl
      · rw [if_neg (by rw [decide_eq_false hx]; exact Bool.false_ne_true), if_neg hx, ev, ev, evs_cons (by rw [ev]) (evs_cons (by rw [ev]) rfl), R.bind_ok, newL_f (show [Wv.non, .int 0].length ≤ line from (by decide : 2 ≤ line)), R.bind_ok, c2, R.bind_ok]
        by_cases hl : x ∈ ls
        · rw [if_pos (decide_eq_true hl), if_pos hl]
          rfl
        · rw [if_neg (by rw [decide_eq_false hl]; exact Bool.false_ne_true), if_neg hl]
          rfl
    | false =>
      rw [hs] at i1
      rw [exB_go ((if_f i1).trans exB_nil)]
      have it : ev P (callN P (n + 2)) (.isi (.v 1) [.tuple]) [.lst (stl ls), v, .unb, .unb] S = .ok (.bl (isTup v)) S := by
        rw [ev, v1, R.bind_ok, isi_tup hv]
        rfl
      have no : exB P (callN P (n + 2)) [.ret (.k (.non))] [.lst (stl ls), v, .unb, .unb] S = .ok (.rt .non) S := exB_rt (ret_ok (by rw [ev]))
      cases hT : isTup v with
      | false =>
        rw [hT] at it
        have : fs ls v = none := by
          cases v <;> first | rfl | (cases hs; done) | (cases hT; done)
        rw [this]
        exact done_rt (exB_rt ((if_t (ev_or' (evAny_t (ev_not' it)))).trans no))
      | true =>
        rw [hT] at it
        obtain ⟨xs, rfl⟩ : ∃ xs, v = .tup xs := by cases v <;> first | exact ⟨_, rfl⟩ | cases hT
        have hlen : ev P (callN P (n + 2)) (.cmp .ne (.p1 .len (.v 1)) (.k (.int 2))) [.lst (stl ls), .tup xs, .unb, .unb] S = .ok (.bl (!decide ((xs.length : Int) = 2))) S := by
          rw [ev, ev, v1, R.bind_ok]
          rfl
        by_cases h2 : xs.length = 2
        · have d2 : decide ((xs.length : Int) = 2) = true := decide_eq_true (by omega)
          rw [d2] at hlen
          obtain ⟨a, b, rfl⟩ : ∃ a b, xs = [a, b] := by
            match xs, h2 with
            | [a, b], _ => exact ⟨a, b, rfl⟩
          obtain ⟨ha, hb⟩ := gd2 hv
          have wa : wei a ≤ 200000 := by simp only [wei, weis] at hw; omega
          have wb : wei b ≤ 200000 := by simp only [wei, weis] at hw; omega
          have e33 := run_msg2 (n := n + 1) (S := S) H.m ha wa
          have c1 : ev P (callN P (n + 2)) (.not (.fn 33 [.idx (.v 1) (.k (.int 0))])) [.lst (stl ls), .tup [a, b], .unb, .unb] S = .ok (.bl (!isM a)) S := by
            refine ev_not' (ev_fn (evs_cons (v := a) ?_ rfl) e33)
            rw [ev, v1, R.bind_ok, ev, R.bind_ok, idx0]
            rfl
          have vb : ev P (callN P (n + 2)) (.idx (.v 1) (.k (.int 1))) [.lst (stl ls), .tup [a, b], .unb, .unb] S = .ok b S := by
            rw [ev, v1, R.bind_ok, ev, R.bind_ok, idx1]
            rfl
          rw [fs_2]
          cases hM : isM a with
          | false =>
            rw [hM] at c1
            exact done_rt (exB_rt ((if_t (ev_or' ((evAny_f (ev_not' it)).trans ((evAny_f hlen).trans (evAny_t c1))))).trans no))
          | true =>
            rw [hM] at c1
            rw [if_pos rfl, exB_go ((if_f (ev_or' ((evAny_f (ev_not' it)).trans ((evAny_f hlen).trans ((evAny_f c1).trans rfl))))).trans exB_nil)]
            have c2 : ev P (callN P (n + 2)) (.not (.isi (.idx (.v 1) (.k (.int 1))) [.tuple])) [.lst (stl ls), .tup [a, b], .unb, .unb] S = .ok (.bl (!isTup b)) S := by
              refine ev_not' ?_
              rw [ev, vb, R.bind_ok, isi_tup hb]
              rfl
            cases hTb : isTup b with
            | false =>
              rw [hTb] at c2
              rw [fsB_no hTb]
              exact done_rt (exB_rt ((if_t (ev_or' (evAny_t c2))).trans no))
            | true =>
              rw [hTb] at c2
              obtain ⟨ys, rfl⟩ : ∃ ys, b = .tup ys := by cases b <;> first | exact ⟨_, rfl⟩ | cases hTb
              have gx : gds ys = true := hb
              have c3 : ev P (callN P (n + 2)) (.cmp .eq (.idx (.v 1) (.k (.int 1))) (.tup [])) [.lst (stl ls), .tup [a, .tup ys], .unb, .unb] S = .ok (.bl ys.isEmpty) S := by
                rw [ev, vb, R.bind_ok, ev, evs, R.bind_ok, if_pos (show ([] : List Wv).length ≤ line from Nat.zero_le _), R.bind_ok, eq_nil gx]
                rfl
              rw [fsB]
              cases hE : ys.isEmpty with
              | true =>
                rw [hE] at c3
                rw [if_pos rfl]
                exact done_rt (exB_rt ((if_t (ev_or' ((evAny_f c2).trans (evAny_t c3)))).trans no))
              | false =>
                rw [hE] at c3
                rw [if_neg Bool.false_ne_true, exB_go ((if_f (ev_or' ((evAny_f c2).trans ((evAny_f c3).trans rfl)))).trans exB_nil)]
                have hi : evI P (callN P (n + 2)) (.any (.idx (.v 1) (.k (.int 1)))) [.lst (stl ls), .tup [a, .tup ys], .unb, .unb] S = .ok ⟨ys, none⟩ S := by
                  rw [evI, vb, R.bind_ok]
                  rfl
                have w2 : weis ys ≤ 200000 := wb
                have lx : ys.length ≤ line := Nat.le_trans (Nat.le_trans (len_weis ys) w2) (by decide)
                have hdx : deps ys + 2 ≤ m := by
                  simp only [dep, deps] at hd
                  omega
                have e := lc_map (bx := false) (own := [3]) (g := .nm 3) (cond := []) (e := .fn 43 [.v 0, .v 3]) hi lx (fun x => oN (fs ls x)) rfl (fun y hy => by
                  have gy := gds_iff.mp gx y hy
                  have wy : wei y + 1 ≤ weis ys := weis_mem hy
                  have dy : dep y ≤ deps ys := deps_le.mp (Nat.le_refl _) y hy
                  have e := ih (m - 2) (by omega) (n + 2) y gy (by omega) (by omega) (by omega)
                  refine ⟨[.lst (stl ls), .tup [a, .tup ys], .unb, y], rfl, rfl, ?_⟩
                  exact ev_fn (evs_cons (ev_v rfl (by simp)) (evs_cons (ev_v rfl (gd_nu gy)) rfl)) e)
                have em : (ys.map fun x => oN (fs ls x)) = (ys.map (fs ls)).map oN := by rw [List.map_map]; rfl
                rw [em, newL_f (by rw [List.length_map, List.length_map]; exact lx)] at e
                have a2 : exS P (callN P (n + 2)) (.asg (.nm 2) (.lc false [3] (.nm 3) (.any (.idx (.v 1) (.k (.int 1)))) [] (.fn 43 [.v 0, .v 3]))) [.lst (stl ls), .tup [a, .tup ys], .unb, .unb] S = .ok (.nx [.lst (stl ls), .tup [a, .tup ys], .lst ((ys.map (fs ls)).map oN), .unb]) S := asg_ok e rfl
                rw [exB_go a2]
                refine done_rt (exB_rt (ret_ok ?_))
                have ci : ev P (callN P (n + 2)) (.cmp .isin (.k (.non)) (.v 2)) [.lst (stl ls), .tup [a, .tup ys], .lst ((ys.map (fs ls)).map oN), .unb] S = .ok (.bl (fss ls ys).isNone) S := by
                  rw [ev, ev, R.bind_ok, ev_v rfl (by simp), R.bind_ok]
                  show R.of ((inW S .non (.lst ((ys.map (fs ls)).map oN))).map Wv.bl) S = _
                  rw [in_none, fss_none]
                  rfl
                rw [ev, ci, R.bind_ok, asBool, R.bind_ok]
                cases hf : fss ls ys with
                | none =>
                  rw [if_pos (show (none : Option Nat).isNone = true from rfl), ev]
                  rfl
                | some c =>
                  obtain ⟨f1, f2⟩ := fss_some hf
                  rw [if_neg (by simp), ev, ev_v rfl (by simp), R.bind_ok]
                  have em2 : ((ys.map (fs ls)).map oN) = ys.map fun x => .int (((fs ls x).getD 0 : Nat) : Int) := by
                    rw [List.map_map]
                    refine List.map_congr_left fun y hy => ?_
                    obtain ⟨q, hq⟩ := f1 y hy
                    show oN (fs ls y) = _
                    rw [hq]
                    rfl
                  rw [em2, sum_ok, f2]
                  rfl
        · have d2 : decide ((xs.length : Int) = 2) = false := decide_eq_false (by omega)
          rw [d2] at hlen
          have : fs ls (.tup xs) = none := by
            match xs, h2 with
            | [], _ => rfl
            | [a], _ => rfl
            | a :: b :: c :: r, _ => rfl
            | [a, b], h2 => exact absurd rfl h2
          rw [this]
          exact done_rt (exB_rt ((if_t (ev_or' ((evAny_f (ev_not' it)).trans (evAny_t hlen)))).trans no))
end Pe

set_option Elab.async false
set_option linter.all false
set_option maxRecDepth 100000
set_option maxHeartbeats 4000000
/-! Runs: random forms, bent forms. -/
namespace Pe
open PySem L2
variable {P : Pg} {n l B : Nat} {S : Sto}
mutual
/-- forms: tuples, short texts of letters, stars -/
def pf : Wv → Bool
  | .str x => (decide (x.length ≤ 8) && x.cps.toList.all fun c => decide (low c)) || decide (x = STAR)
  | .tup xs => pfs xs
  | .int _ => false
  | .unb => false
  | .non => false
  | .bl _ => false
  | .lst _ => false
  | .ref _ => false
  | .cls _ => false
  | .scr _ => false
def pfs : List Wv → Bool
  | [] => true
  | x :: xs => pf x && pfs xs
end
theorem star_gd : gd (.str STAR) = true := by decide +kernel
theorem pf_str {x : Str} (h : pf (.str x) = true) : gd (.str x) = true ∧ x.length ≤ 8 := by
  simp only [pf, Bool.or_eq_true, Bool.and_eq_true, decide_eq_true_eq] at h
  rcases h with h | rfl
  · exact ⟨low_gd h.2, h.1⟩
  · exact ⟨star_gd, by decide +kernel⟩
mutual
theorem pf_gd : ∀ v : Wv, pf v = true → gd v = true
  | .str x, h => (pf_str h).1
  | .tup xs, h => by
    simp only [pf, gd] at h ⊢
    exact pfs_gd xs h
  | .int _, h => by cases h
  | .unb, h => by cases h
  | .non, h => by cases h
  | .bl _, h => by cases h
  | .lst _, h => by cases h
  | .ref _, h => by cases h
  | .cls _, h => by cases h
  | .scr _, h => by cases h
theorem pfs_gd : ∀ vs : List Wv, pfs vs = true → gds vs = true
  | [], _ => rfl
  | x :: xs, h => by
    simp only [pfs, gds, Bool.and_eq_true] at h ⊢
    exact ⟨pf_gd x h.1, pfs_gd xs h.2⟩
end
theorem pfs_iff : ∀ {xs : List Wv}, pfs xs = true ↔ ∀ x ∈ xs, pf x = true
  | [] => by simp [pfs]
  | x :: xs => by simp [pfs, pfs_iff]
theorem nm_pf {x : Str} (h : Nm x) : pf (.str x) = true := by
  simp only [pf, Bool.or_eq_true, Bool.and_eq_true, decide_eq_true_eq, List.all_eq_true]
  exact .inl ⟨h.2.1, h.2.2⟩
/-! ### some value -/
def anyA1 : List Wv := [.non, .bl true, .int 0, .int 3, .str "", .str "*", .str "**", .str "a", .str "A", .str "zzzz", .tup [], .lst [], .tup [.str "", .tup []], .tup [.str "*"], .tup [.str "m", .tup [.str "*"]], .lst [.str "m", .tup [.str "*"]]]
def anyB1 : List Wv := [.tup [.str "m", .lst [.str "*"]], .tup [.str "m", .str "*"], .tup [.str "M", .tup [.str "*"]], .tup [.str "*", .tup [.str "*"]], .tup [.str "m", .tup [.tup [.str "m", .tup []]]], .tup [.str "", .tup [.str "*", .str "*"]]]
theorem any_all1 : ∀ x ∈ anyA1 ++ anyB1, gd x = true ∧ dep x ≤ 4 ∧ wei x ≤ 400 := by
  have h : (anyA1 ++ anyB1).all (fun x => gd x && decide (dep x ≤ 4) && decide (wei x ≤ 400)) = true := by decide +kernel
  intro x hx
  have := List.all_eq_true.mp h x hx
  simp only [Bool.and_eq_true, decide_eq_true_eq] at this
  exact ⟨this.1.1, this.1.2, this.2⟩
theorem run_any1 (h : P.fn 31 = some fd_law_any_v1) (hd : P.fn 25 = some fd_law_draw_v0) (hs : Src l B S) (hB : B ≤ 10 ^ 10) :
    ∃ (v : Wv) (S' : Sto), callN P (n + 2) 31 [.ref l] S = .ok v S' ∧ gd v = true ∧ dep v ≤ 4 ∧ wei v ≤ 400 ∧ Src l (B + 1) S' ∧ Drw l S S' := by
  rw [call_eq h rfl rfl (by decide)]
  obtain ⟨d, S1, e1, d0, d1, s1, w1⟩ := run_draw (n := n) hd hs (by omega) (m := 22) (by decide) (by decide)
  have a1 : exS P (callN P (n + 1)) (.asg (.nm 1) (.dsp false [.k (.non), .k (.bl true), .k (.int 0), .k (.int 3), .k (.str ""), .k (.str "*"), .k (.str "**"), .k (.str "a"), .k (.str "A"), .k (.str "zzzz"), .tup [], .dsp false [], .tup [.k (.str ""), .tup []], .tup [.k (.str "*")], .tup [.k (.str "m"), .tup [.k (.str "*")]], .dsp false [.k (.str "m"), .tup [.k (.str "*")]]])) [.ref l, .unb] S = .ok (.nx [.ref l, .lst anyA1]) S := by
    simp [newL, anyA1, show 16 ≤ line by decide, show 2 ≤ line by decide, show 1 ≤ line by decide]
  have bo : binW .add S (.lst anyA1) (.lst anyB1) = some (.lst (anyA1 ++ anyB1)) := add_lst (by decide)
  have a2 : exS P (callN P (n + 1)) (.asg (.nm 1) (.bin .add (.v 1) (.dsp false [.tup [.k (.str "m"), .dsp false [.k (.str "*")]], .tup [.k (.str "m"), .k (.str "*")], .tup [.k (.str "M"), .tup [.k (.str "*")]], .tup [.k (.str "*"), .tup [.k (.str "*")]], .tup [.k (.str "m"), .tup [.tup [.k (.str "m"), .tup []]]], .tup [.k (.str ""), .tup [.k (.str "*"), .k (.str "*")]]]))) [.ref l, .lst anyA1] S = .ok (.nx [.ref l, .lst (anyA1 ++ anyB1)]) S := by
    have eB : ev P (callN P (n + 1)) (.dsp false [.tup [.k (.str "m"), .dsp false [.k (.str "*")]], .tup [.k (.str "m"), .k (.str "*")], .tup [.k (.str "M"), .tup [.k (.str "*")]], .tup [.k (.str "*"), .tup [.k (.str "*")]], .tup [.k (.str "m"), .tup [.tup [.k (.str "m"), .tup []]]], .tup [.k (.str ""), .tup [.k (.str "*"), .k (.str "*")]]]) [.ref l, .lst anyA1] S = .ok (.lst anyB1) S := by
      simp [newL, anyB1, show 6 ≤ line by decide, show 2 ≤ line by decide, show 1 ≤ line by decide]
    refine asg_ok ?_ rfl
    rw [ev, ev_v rfl (by simp), R.bind_ok, eB, R.bind_ok, bo]
    rfl
  obtain ⟨r, er, hr⟩ := pick_in (S := S1) (xs := anyA1 ++ anyB1) d0 d1
  obtain ⟨p1, p2, p3⟩ := any_all1 r hr
  refine ⟨r, S1, ?_, p1, p2, p3, s1, w1⟩
  show (exB P (callN P (n + 1)) [_, _, _] [.ref l, .unb] S).bind _ = _
  rw [exB_go a1, exB_go a2, exB_rt (ret_ok (v := r) (S1 := S1) ?_), R.bind_ok]
  · show R.ok _ (sweep S.length _ S1) = _
    rw [sweep_same (by rw [w1.len]; exact Nat.le_refl _)]
  · rw [ev, ev_v rfl (by simp), R.bind_ok, ev_fn (evs_cons (ev_v rfl (by simp)) (evs_cons (by rw [ev]) rfl)) e1, R.bind_ok, er]
    rfl
/-! ### random forms -/
structure Fm (D W : Nat) (v : Wv) : Prop where
  p : pf v = true
  d : dep v ≤ D
  w : wei v ≤ W
def wF : Nat → Nat
  | 0 => 10
  | d + 1 => 3 * (wF d + 1) + 10
def cF : Nat → Nat
  | 0 => 2
  | d + 1 => 3 * cF d + 4
theorem pick_n {d : Int} (h0 : 0 ≤ d) (h1 : d < 3) : ∃ x : Str, idxW S (.lst [.str "", .str "note", .str "x"]) (.int d) = some (.str x) ∧ pf (.str x) = true ∧ x.length ≤ 4 := by
  have : d = 0 ∨ d = 1 ∨ d = 2 := by omega
  rcases this with rfl | rfl | rfl
  · exact ⟨"", rfl, by decide +kernel, by decide +kernel⟩
  · exact ⟨"note", rfl, by decide +kernel, by decide +kernel⟩
  · exact ⟨"x", rfl, by decide +kernel, by decide +kernel⟩
theorem pick_w {d : Nat} (h : d ≤ 2) : ∃ k : Nat, 1 ≤ k ∧ k ≤ 3 ∧ idxW S (.lst [.int 3, .int 3, .int 2]) (.int (d : Nat)) = some (.int k) := by
  have : d = 0 ∨ d = 1 ∨ d = 2 := by omega
  rcases this with rfl | rfl | rfl
  · exact ⟨3, by decide, by decide, rfl⟩
  · exact ⟨3, by decide, by decide, rfl⟩
  · exact ⟨2, by decide, by decide, rfl⟩
/-- a leaf: a star, or a name -/
theorem run_rleaf (hd : P.fn 25 = some fd_law_draw_v0) {ls : List Str} (hl : Labels ls) (hp : Bool) (hs : Src l B S) (hB : B ≤ 10 ^ 11) {d u4 u5 u6 u7 : Wv} :
    ∃ v S', exB P (callN P (n + 1)) [.ret (.ite (.v 2) (.k (.str "*")) (.idx (.v 1) (.fn 25 [.v 0, .p1 .len (.v 1)])))] [.ref l, .lst (stl ls), .bl hp, d, u4, u5, u6, u7] S = .ok (.rt v) S' ∧ Fm 0 10 v ∧ Src l (B + 1) S' ∧ Drw l S S' := by
  cases hp with
  | true =>
    refine ⟨.str STAR, S, exB_rt (ret_ok ?_), ⟨by decide +kernel, by decide +kernel, by decide +kernel⟩, hs.mono (by omega), .rfl'⟩
    rw [ev, ev_v rfl (by simp), R.bind_ok, asBool, R.bind_ok, if_pos rfl, ev]
  | false =>
    obtain ⟨q, S2, e2, d0, d1, s2, w2⟩ := run_draw (n := n) hd hs (by omega) (m := (ls.length : Nat)) (by have := hl.few.1; omega) (by have := hl.few.2; omega)
    have hj : q.toNat < ls.length := by omega
    have ix := idx_lst (S := S2) (xs := stl ls) (k := q) (j := q.toNat) (by omega) (show (stl ls)[q.toNat]? = some (.str ls[q.toNat]) by rw [List.getElem?_map, List.getElem?_eq_getElem hj]; rfl)
    have nx := hl.nm _ (List.getElem_mem hj)
    refine ⟨.str ls[q.toNat], S2, exB_rt (ret_ok ?_), ⟨nm_pf nx, Nat.zero_le _, by show Str.length _ ≤ 10; have := nx.2.1; omega⟩, s2, w2⟩
    rw [ev, ev_v rfl (by simp), R.bind_ok, asBool, R.bind_ok, if_neg Bool.false_ne_true, ev, ev_v rfl (by simp), R.bind_ok, ev_fn (evs_cons (ev_v rfl (by simp)) (evs_cons (v := .int ls.length) (by rw [ev, ev_v rfl (by simp), R.bind_ok, len_lst]; rfl) rfl)) e2, R.bind_ok, ix]
    rfl
theorem run_rform (f40 : P.fn 40 = some fd_law_random_form) (hd : P.fn 25 = some fd_law_draw_v0) {ls : List Str} (hl : Labels ls) : ∀ (d B : Nat) (hp : Bool) (S : Sto), d ≤ 2 → Src l B S → B + 1000 * cF d ≤ 10 ^ 11 →
    ∃ v S', callN P (n + d + 2) 40 [.ref l, .lst (stl ls), .bl hp, .int d] S = .ok v S' ∧ Fm (2 * d) (wF d) v ∧ Src l (B + cF d) S' ∧ Drw l S S' := by
  intro d
  induction d with
  | zero =>
    intro B hp S hd2 hs hB
    have hc : cF 0 = 2 := rfl
    rw [call_eq f40 rfl rfl (by decide)]
    have t1 : ev P (callN P (n + 1)) (.cmp .eq (.v 3) (.k (.int 0))) [.ref l, .lst (stl ls), .bl hp, .int 0, .unb, .unb, .unb, .unb] S = .ok (.bl true) S := by
      rw [ev, ev_v rfl (by simp), R.bind_ok, ev, R.bind_ok, cmp_int_eq]
      rfl
    obtain ⟨v, S', ee, fm, s', w'⟩ := run_rleaf (n := n) (d := .int 0) (u4 := .unb) (u5 := .unb) (u6 := .unb) (u7 := .unb) hd hl hp hs (by omega)
    refine ⟨v, S', ?_, fm, s'.mono (by omega), w'⟩
    show (exB P (callN P (n + 1)) [_, _, _, _, _] [.ref l, .lst (stl ls), .bl hp, .int 0, .unb, .unb, .unb, .unb] S).bind _ = _
    rw [exB_rt ((if_t (ev_or' (evAny_t t1))).trans ee), R.bind_ok]
    show R.ok v (sweep S.length v S') = _
    rw [sweep_same (Nat.le_of_eq w'.len)]
  | succ d ih =>
    intro B hp S hd2 hs hB
    have hc : cF (d + 1) = 3 * cF d + 4 := rfl
    rw [call_eq f40 rfl rfl (by decide)]
    have e0 : (n + (d + 1) + 1) = n + d + 2 := by omega
    rw [e0]
    have nd : ev P (callN P (n + d + 2)) (.cmp .eq (.v 3) (.k (.int 0))) [.ref l, .lst (stl ls), .bl hp, .int (d + 1 : Nat), .unb, .unb, .unb, .unb] S = .ok (.bl false) S := by
      rw [ev, ev_v rfl (by simp), R.bind_ok, ev, R.bind_ok, cmp_int_eq, decide_eq_false (by omega)]
      rfl
    obtain ⟨q, S1, e1, q0, q1, s1, w1⟩ := run_draw (n := n + d + 1) hd hs (by omega) (m := 3) (by decide) (by decide)
    have dr : ev P (callN P (n + d + 2)) (.cmp .eq (.fn 25 [.v 0, .k (.int 3)]) (.k (.int 0))) [.ref l, .lst (stl ls), .bl hp, .int (d + 1 : Nat), .unb, .unb, .unb, .unb] S = .ok (.bl (decide (q = 0))) S1 := by
      rw [ev, ev_fn (evs_cons (ev_v rfl (by simp)) (evs_cons (by rw [ev]) rfl)) e1, R.bind_ok, ev, R.bind_ok, cmp_int_eq]
      rfl
    by_cases hq : q = 0
    · rw [decide_eq_true hq] at dr
      obtain ⟨v, S', ee, fm, s', w'⟩ := run_rleaf (n := n + d + 1) (d := .int (d + 1 : Nat)) (u4 := .unb) (u5 := .unb) (u6 := .unb) (u7 := .unb) hd hl hp s1 (by omega)
      have h2 : 10 ≤ wF (d + 1) := by
        have : ∀ k, 10 ≤ wF k := fun k => by
          induction k with
          | zero => exact Nat.le_refl _
          | succ k ih => show 10 ≤ 3 * (wF k + 1) + 10; omega
        exact this _
      have w2 := w1.trans w'
      refine ⟨v, S', ?_, ⟨fm.p, by have := fm.d; omega, by have := fm.w; have h3 : wF 0 = 10 := rfl; omega⟩, s'.mono (by omega), w2⟩
      show (exB P (callN P (n + d + 2)) [_, _, _, _, _] [.ref l, .lst (stl ls), .bl hp, .int (d + 1 : Nat), .unb, .unb, .unb, .unb] S).bind _ = _
      rw [exB_rt ((if_t (ev_or' ((evAny_f nd).trans (evAny_t dr)))).trans ee), R.bind_ok]
      show R.ok v (sweep S.length v S') = _
      rw [sweep_same (Nat.le_of_eq w2.len)]
    · rw [decide_eq_false hq] at dr
      obtain ⟨k3, k30, k31, ek⟩ := pick_w (S := S1) hd2
      obtain ⟨a, S2, e2, a0, a1, s2, w2⟩ := run_draw (n := n + d + 1) hd s1 (by omega) (m := (k3 : Int)) (by omega) (by omega)
      obtain ⟨m, hm⟩ : ∃ m : Nat, 1 + a = (m : Int) := ⟨(1 + a).toNat, by omega⟩
      have p2 : exS P (callN P (n + d + 2)) (.asg (.nm 4) (.bin .add (.k (.int 1)) (.fn 25 [.v 0, .idx (.dsp false [.k (.int 3), .k (.int 3), .k (.int 2)]) (.v 3)]))) [.ref l, .lst (stl ls), .bl hp, .int (d + 1 : Nat), .unb, .unb, .unb, .unb] S1 = .ok (.nx [.ref l, .lst (stl ls), .bl hp, .int (d + 1 : Nat), .int m, .unb, .unb, .unb]) S2 := by
        refine asg_ok ?_ rfl
        rw [ev, ev, R.bind_ok, ev_fn (evs_cons (ev_v rfl (by simp)) (evs_cons (v := .int (k3 : Nat)) (S1 := S1) ?_ rfl)) e2, R.bind_ok, add_ok, hm]
        · rfl
        · rw [ev, ev, evs_cons (by rw [ev]) (evs_cons (by rw [ev]) (evs_cons (by rw [ev]) rfl)), R.bind_ok, newL_f (show [Wv.int 3, .int 3, .int 2].length ≤ line from (by decide : 3 ≤ line)), R.bind_ok, ev_v rfl (by simp), R.bind_ok, ek]
          rfl
      obtain ⟨t, S3, e3, t0, t1, s3, w3⟩ := run_draw (n := n + d + 1) hd s2 (by omega) (m := (m : Int)) (by omega) (by omega)
      have p3 : exS P (callN P (n + d + 2)) (.asg (.nm 5) (.fn 25 [.v 0, .v 4])) [.ref l, .lst (stl ls), .bl hp, .int (d + 1 : Nat), .int m, .unb, .unb, .unb] S2 = .ok (.nx [.ref l, .lst (stl ls), .bl hp, .int (d + 1 : Nat), .int m, .int t, .unb, .unb]) S3 :=
        asg_ok (ev_fn (evs_cons (ev_v rfl (by simp)) (evs_cons (ev_v rfl (by simp)) rfl)) e3) rfl
      have hi : evI P (callN P (n + d + 2)) (.rng [.v 4]) [.ref l, .lst (stl ls), .bl hp, .int (d + 1 : Nat), .int m, .int t, .unb, .unb] S3 = .ok (rngI m) S3 := evI_rng (k := (m : Int)) (ev_v rfl (by simp)) rfl (by omega)
      obtain ⟨ys, S4, e4, hyl, hyf, s4, w4⟩ := lc_inv (bx := false) (own := [7]) (g := .nm 7) (cond := []) (e := .fn 40 [.v 0, .v 1, .and [.v 2, .cmp .eq (.v 7) (.v 5)], .bin .sub (.v 3) (.k (.int 1))]) hi (by rw [rng_len]; exact Nat.le_trans (show m ≤ 1000 by omega) (by decide))
        (fun i ys S4 => ys.length = i ∧ (∀ y ∈ ys, Fm (2 * d) (wF d) y) ∧ Src l (B + 3 + i * cF d) S4 ∧ Drw l S3 S4) ⟨rfl, by simp, by rw [Nat.zero_mul]; exact s3, .rfl'⟩ (fun _ _ _ _ _ => rfl) (fun i y ys S4 hy hI => by
          obtain ⟨hyl, hyf, s4, w4⟩ := hI
          obtain ⟨hi, rfl⟩ := rng_at hy
          have hmul : (i + 1) * cF d = i * cF d + cF d := by rw [Nat.add_mul, Nat.one_mul]
          have hle : i * cF d ≤ 3 * cF d := Nat.mul_le_mul_right _ (by omega)
          obtain ⟨v, S5, e5, fm, s5, w5⟩ := ih (B + 3 + i * cF d) (hp && decide ((i : Int) = t)) S4 (by omega) s4 (by omega)
          refine ⟨[.ref l, .lst (stl ls), .bl hp, .int (d + 1 : Nat), .int m, .int t, .unb, .int i], S4, rfl, .inr ⟨rfl, v, S5, ?_, by simp [hyl], fun z hz => ?_, s5.mono (by omega), w4.trans w5⟩⟩
          · refine ev_fn (evs_cons (ev_v rfl (by simp)) (evs_cons (ev_v rfl (by simp)) (evs_cons (v := .bl (hp && decide ((i : Int) = t))) (S1 := S4) ?_ (evs_cons (v := .int (d : Nat)) (S1 := S4) ?_ rfl)))) e5
            · have c2 : ev P (callN P (n + d + 2)) (.cmp .eq (.v 7) (.v 5)) [.ref l, .lst (stl ls), .bl hp, .int (d + 1 : Nat), .int m, .int t, .unb, .int i] S4 = .ok (.bl (decide ((i : Int) = t))) S4 := by
                rw [ev, ev_v rfl (by simp), R.bind_ok, ev_v rfl (by simp), R.bind_ok, cmp_int_eq]
                rfl
              have c1 : ev P (callN P (n + d + 2)) (.v 2) [.ref l, .lst (stl ls), .bl hp, .int (d + 1 : Nat), .int m, .int t, .unb, .int i] S4 = .ok (.bl hp) S4 := ev_v rfl (by simp)
              refine ev_and' ?_
              cases hp with
              | false => exact evAll_f c1
              | true =>
                refine (evAll_t c1).trans ?_
                rw [Bool.true_and]
                cases hq : decide ((i : Int) = t) with
                | false => rw [hq] at c2; exact evAll_f c2
                | true => rw [hq] at c2; exact (evAll_t c2).trans rfl
            · rw [ev, ev_v rfl (by simp), R.bind_ok, ev, R.bind_ok, subi_ok]
              have : ((d + 1 : Nat) : Int) - 1 = (d : Nat) := by omega
              rw [this]
              rfl
          · rcases List.mem_append.mp hz with hz | hz
            · exact hyf z hz
            · rw [List.mem_singleton.mp hz]
              exact fm)
      rw [rng_len] at hyl s4
      have m3 : m ≤ 3 := by omega
      have hmc : m * cF d ≤ 3 * cF d := Nat.mul_le_mul_right _ m3
      rw [newL_f (by rw [hyl]; exact Nat.le_trans m3 (by decide))] at e4
      have p4 : exS P (callN P (n + d + 2)) (.asg (.nm 6) (.lc false [7] (.nm 7) (.rng [.v 4]) [] (.fn 40 [.v 0, .v 1, .and [.v 2, .cmp .eq (.v 7) (.v 5)], .bin .sub (.v 3) (.k (.int 1))]))) [.ref l, .lst (stl ls), .bl hp, .int (d + 1 : Nat), .int m, .int t, .unb, .unb] S3 = .ok (.nx [.ref l, .lst (stl ls), .bl hp, .int (d + 1 : Nat), .int m, .int t, .lst ys, .unb]) S4 := asg_ok e4 rfl
      obtain ⟨q5, S5, e5, q50, q51, s5, w5⟩ := run_draw (n := n + d + 1) hd s4 (by omega) (m := 3) (by decide) (by decide)
      obtain ⟨x, ex, px, lx⟩ := pick_n (S := S5) q50 q51
      have p5 : exS P (callN P (n + d + 2)) (.ret (.tup [.idx (.dsp false [.k (.str ""), .k (.str "note"), .k (.str "x")]) (.fn 25 [.v 0, .k (.int 3)]), .p1 .tuple (.v 6)])) [.ref l, .lst (stl ls), .bl hp, .int (d + 1 : Nat), .int m, .int t, .lst ys, .unb] S4 = .ok (.rt (.tup [.str x, .tup ys])) S5 := by
        refine ret_ok ?_
        rw [ev, evs_cons (v := .str x) (S1 := S5) ?_ (evs_cons (v := .tup ys) (by rw [ev, ev_v rfl (by simp), R.bind_ok]; rfl) rfl), R.bind_ok]
        · rw [if_pos (show [Wv.str x, .tup ys].length ≤ line from (by decide : 2 ≤ line))]
        · rw [ev, ev, evs_cons (by rw [ev]) (evs_cons (by rw [ev]) (evs_cons (by rw [ev]) rfl)), R.bind_ok, newL_f (show [Wv.str "", .str "note", .str "x"].length ≤ line from (by decide : 3 ≤ line)), R.bind_ok, ev_fn (evs_cons (ev_v rfl (by simp)) (evs_cons (by rw [ev]) rfl)) e5, R.bind_ok, ex]
          rfl
      have w := (((w1.trans w2).trans w3).trans w4).trans w5
      have p1 : exS P (callN P (n + d + 2)) (.ite (.or [.cmp .eq (.v 3) (.k (.int 0)), .cmp .eq (.fn 25 [.v 0, .k (.int 3)]) (.k (.int 0))]) [.ret (.ite (.v 2) (.k (.str "*")) (.idx (.v 1) (.fn 25 [.v 0, .p1 .len (.v 1)])))] []) [.ref l, .lst (stl ls), .bl hp, .int (d + 1 : Nat), .unb, .unb, .unb, .unb] S = .ok (.nx [.ref l, .lst (stl ls), .bl hp, .int (d + 1 : Nat), .unb, .unb, .unb, .unb]) S1 :=
        (if_f (ev_or' ((evAny_f nd).trans ((evAny_f dr).trans rfl)))).trans exB_nil
      refine ⟨.tup [.str x, .tup ys], S5, ?_, ⟨?_, ?_, ?_⟩, s5.mono (by omega), w⟩
      · show (exB P (callN P (n + d + 2)) [_, _, _, _, _] [.ref l, .lst (stl ls), .bl hp, .int (d + 1 : Nat), .unb, .unb, .unb, .unb] S).bind _ = _
        rw [exB_go p1, exB_go p2, exB_go p3, exB_go p4, exB_rt p5, R.bind_ok]
        show R.ok _ (sweep S.length _ S5) = _
        rw [sweep_same (Nat.le_of_eq w.len)]
      · have hpl : pfs ys = true := pfs_iff.mpr fun v hv => (hyf v hv).p
        simp only [pfs, pf, Bool.and_true, Bool.and_eq_true] at px ⊢
        exact ⟨px, hpl⟩
      · have : deps ys ≤ 2 * d := deps_le.mpr fun v hv => (hyf v hv).d
        simp only [dep, deps]
        omega
      · have h1 := weis_le ys fun v hv => (hyf v hv).w
        have h2 : ys.length * (wF d + 1) ≤ 3 * (wF d + 1) := Nat.mul_le_mul_right _ (by omega)
        have h3 : wF (d + 1) = 3 * (wF d + 1) + 10 := rfl
        simp only [wei, weis]
        omega
end Pe

set_option Elab.async false
set_option linter.all false
set_option maxRecDepth 100000
set_option maxHeartbeats 4000000
/-! Runs: a form bent at one place. -/
namespace Pe
open PySem L2
variable {P : Pg} {n l B : Nat} {S : Sto}
theorem up_gd {x : Str} (h : (x.cps.toList.all fun c => decide (low c)) = true) (hl : x.length ≤ 8) : gd (.str (Txt.upper x)) = true ∧ (Txt.upper x).length ≤ 8 := by
  have ux : Txt.upper x = tx (x.cps.toList.map fun c => c - 32) := by
    have e : x = tx x.cps.toList := by
      obtain ⟨c⟩ := x
      simp [tx]
    have := up_tx x.cps.toList fun c hc => of_decide_eq_true (List.all_eq_true.mp h c hc)
    rw [← e] at this
    exact this
  refine ⟨?_, ?_⟩
  · rw [ux]
    show (tx _).cps.all (· < 0x110000) = true
    rw [Array.all_eq_true_iff_forall_mem]
    intro c hc
    have hc' : c ∈ x.cps.toList.map fun c => c - 32 := by simpa using hc
    obtain ⟨d, hd', rfl⟩ := List.mem_map.mp hc'
    have := of_decide_eq_true (List.all_eq_true.mp h d hd')
    exact decide_eq_true (by have := this.2; omega)
  · rw [ux, len_tx, List.length_map]
    have : x.cps.toList.length = x.length := by simp [Str.length]
    omega
/-- the last two ways: another value, or itself a little changed -/
theorem run_flat1 (f31 : P.fn 31 = some fd_law_any_v1) (hd : P.fn 25 = some fd_law_draw_v0) {v : Wv} (hv : pf v = true) (hw : wei v ≤ 50000) (hs : Src l B S) (hB : B ≤ 10 ^ 9) :
    ∃ r S', exB P (callN P (n + 2)) [.par 2 3 (.fn 31 [.v 0]) (.fn 25 [.v 0, .k (.int 7)]), .ite (.and [.isi (.v 1) [.tuple], .cmp .lt (.v 3) (.k (.int 5))]) [.asg (.nm 4) (.fn 25 [.v 0, .bin .add (.p1 .len (.v 1)) (.k (.int 1))]), .asg (.nm 5) (.dsp false [.lst false (.v 1), .bin .add (.slc (.v 1) none (some (.v 4))) (.slc (.v 1) (some (.bin .add (.v 4) (.k (.int 1)))) none), .bin .add (.bin .add (.slc (.v 1) none (some (.v 4))) (.tup [.v 2])) (.slc (.v 1) (some (.v 4)) none), .rev false (.v 1)]), .ret (.idx (.bin .add (.v 5) (.dsp false [.bin .add (.slc (.v 1) none (some (.bin .add (.v 4) (.k (.int 1))))) (.slc (.v 1) (some (.v 4)) none)])) (.v 3))] [], .ite (.and [.isi (.v 1) [.str], .cmp .lt (.v 3) (.k (.int 4))]) [.ret (.idx (.dsp false [.bin .add (.v 1) (.k (.str "x")), .p1 .upper (.v 1), .slc (.v 1) (some (.k (.int 1))) none, .k (.str "*")]) (.v 3))] [], .ret (.v 2)] [.ref l, v, .unb, .unb, .unb, .unb] S = .ok (.rt r) S' ∧ Rs v r ∧ Src l (B + 3) S' ∧ Drw l S S' := by
  have gv := pf_gd v hv
  have nu := gd_nu gv
  obtain ⟨o, S1, e1, go, do_, wo, s1, w1⟩ := run_any1 (n := n) f31 hd hs (by omega)
  obtain ⟨c, S2, e2, c0, c1, s2, w2⟩ := run_draw (n := n + 1) hd s1 (by omega) (m := 7) (by decide) (by decide)
  have a1 : exS P (callN P (n + 2)) (.par 2 3 (.fn 31 [.v 0]) (.fn 25 [.v 0, .k (.int 7)])) [.ref l, v, .unb, .unb, .unb, .unb] S = .ok (.nx [.ref l, v, o, .int c, .unb, .unb]) S2 := by
    rw [exS, ev_fn (evs_cons (ev_v rfl (by simp)) rfl) e1, R.bind_ok, ev_fn (evs_cons (ev_v rfl (by simp)) (evs_cons (by rw [ev]) rfl)) e2, R.bind_ok, if_pos (by simp)]
    rfl
  have ro : Rs v o := ⟨go, by omega, by omega⟩
  have w02 := w1.trans w2
  rw [exB_go a1]
  have isi : ∀ (T : Ty) (S : Sto), ev P (callN P (n + 2)) (.isi (.v 1) [T]) [.ref l, v, o, .int c, .unb, .unb] S = R.of ((isAny S v [T]).map Wv.bl) S := fun T S => by
    rw [ev, ev_v rfl nu, R.bind_ok]
  have lt : ∀ (m : Int) (S : Sto), ev P (callN P (n + 2)) (.cmp .lt (.v 3) (.k (.int m))) [.ref l, v, o, .int c, .unb, .unb] S = .ok (.bl (decide (c < m))) S := fun m S => by
    rw [ev, ev_v rfl (by simp), R.bind_ok, ev, R.bind_ok, cmp_int_lt]
    rfl
  have fin : exS P (callN P (n + 2)) (.ret (.v 2)) [.ref l, v, o, .int c, .unb, .unb] S2 = .ok (.rt o) S2 := ret_ok (ev_v rfl (gd_nu go))
  have s2' := s2.mono (show B + 1 + 1 ≤ B + 3 by omega)
  cases v with
  | tup xs =>
    have no2 : ∀ b, exS P (callN P (n + 2)) (.ite (.and [.isi (.v 1) [.str], .cmp .lt (.v 3) (.k (.int 4))]) b []) [.ref l, .tup xs, o, .int c, .unb, .unb] S2 = .ok (.nx [.ref l, .tup xs, o, .int c, .unb, .unb]) S2 := fun b => (if_f (ev_and' (evAll_f (isi .str S2)))).trans exB_nil
    have l5 := lt 5 S2
    by_cases h5 : c < 5
    · rw [decide_eq_true h5] at l5
      have lx : xs.length ≤ 50000 := Nat.le_trans (len_weis xs) hw
      have wx : weis xs ≤ 50000 := hw
      obtain ⟨a, S3, e3, a0, a1', s3, w3⟩ := run_draw (n := n + 1) hd s2 (by omega) (m := (xs.length : Int) + 1) (by omega) (by omega)
      obtain ⟨j, rfl⟩ : ∃ j : Nat, a = (j : Int) := ⟨a.toNat, by omega⟩
      have hj : j ≤ xs.length := by omega
      have ej : ((j : Int) + 1) = ((j + 1 : Nat) : Int) := by omega
      have q4 : exS P (callN P (n + 2)) (.asg (.nm 4) (.fn 25 [.v 0, .bin .add (.p1 .len (.v 1)) (.k (.int 1))])) [.ref l, .tup xs, o, .int c, .unb, .unb] S2 = .ok (.nx [.ref l, .tup xs, o, .int c, .int j, .unb]) S3 := by
        refine asg_ok (ev_fn (evs_cons (ev_v rfl (by simp)) (evs_cons (v := .int ((xs.length : Int) + 1)) ?_ rfl)) e3) rfl
        rw [ev, ev, ev_v rfl (by simp), R.bind_ok]
        rfl
      have eA : ∀ r5 : Wv, ev P (callN P (n + 2)) (.slc (.v 1) none (some (.v 4))) [.ref l, .tup xs, o, .int c, .int j, r5] S3 = .ok (.tup (xs.take j)) S3 := fun r5 => by
        rw [ev, ev_v rfl (by simp), R.bind_ok, evO, R.bind_ok, evO, ev_v rfl (by simp), R.bind_ok]
        show (R.of (some (some (j : Int))) S3).bind _ = _
        rw [R.of_some, R.bind_ok, slT_lo]
        rfl
      have eD : ∀ r5 : Wv, ev P (callN P (n + 2)) (.slc (.v 1) (some (.v 4)) none) [.ref l, .tup xs, o, .int c, .int j, r5] S3 = .ok (.tup (xs.drop j)) S3 := fun r5 => by
        rw [ev, ev_v rfl (by simp), R.bind_ok, evO, ev_v rfl (by simp), R.bind_ok]
        show ((R.of (some (some (j : Int))) S3).bind _) = _
        rw [R.of_some, R.bind_ok, evO, R.bind_ok, slT_hi]
        rfl
      have eE : ∀ r5 : Wv, ev P (callN P (n + 2)) (.slc (.v 1) (some (.bin .add (.v 4) (.k (.int 1)))) none) [.ref l, .tup xs, o, .int c, .int j, r5] S3 = .ok (.tup (xs.drop (j + 1))) S3 := fun r5 => by
        rw [ev, ev_v rfl (by simp), R.bind_ok, evO, ev, ev_v rfl (by simp), R.bind_ok, ev, R.bind_ok, add_ok, R.of_some, R.bind_ok]
        show ((R.of (some (some ((j : Int) + 1))) S3).bind _) = _
        rw [R.of_some, R.bind_ok, evO, R.bind_ok, ej, slT_hi]
        rfl
      have eF : ∀ r5 : Wv, ev P (callN P (n + 2)) (.slc (.v 1) none (some (.bin .add (.v 4) (.k (.int 1))))) [.ref l, .tup xs, o, .int c, .int j, r5] S3 = .ok (.tup (xs.take (j + 1))) S3 := fun r5 => by
        rw [ev, ev_v rfl (by simp), R.bind_ok, evO, R.bind_ok, evO, ev, ev_v rfl (by simp), R.bind_ok, ev, R.bind_ok, add_ok, R.of_some, R.bind_ok]
        show ((R.of (some (some ((j : Int) + 1))) S3).bind _) = _
        rw [R.of_some, R.bind_ok, ej, slT_lo]
        rfl
      have lA : (xs.take j).length ≤ 50000 := by rw [List.length_take]; omega
      have lD : (xs.drop j).length ≤ 50000 := by rw [List.length_drop]; omega
      have lE : (xs.drop (j + 1)).length ≤ 50000 := by rw [List.length_drop]; omega
      have lF : (xs.take (j + 1)).length ≤ 50000 := by rw [List.length_take]; omega
      have q5 : exS P (callN P (n + 2)) (.asg (.nm 5) (.dsp false [.lst false (.v 1), .bin .add (.slc (.v 1) none (some (.v 4))) (.slc (.v 1) (some (.bin .add (.v 4) (.k (.int 1)))) none), .bin .add (.bin .add (.slc (.v 1) none (some (.v 4))) (.tup [.v 2])) (.slc (.v 1) (some (.v 4)) none), .rev false (.v 1)])) [.ref l, .tup xs, o, .int c, .int j, .unb] S3 = .ok (.nx [.ref l, .tup xs, o, .int c, .int j, .lst [.lst xs, .tup (xs.take j ++ xs.drop (j + 1)), .tup (xs.take j ++ [o] ++ xs.drop j), .tup xs.reverse]]) S3 := by
        refine asg_ok ?_ rfl
        rw [ev, evs_cons (v := .lst xs) (S1 := S3) ?_ (evs_cons (v := .tup (xs.take j ++ xs.drop (j + 1))) (S1 := S3) ?_ (evs_cons (v := .tup (xs.take j ++ [o] ++ xs.drop j)) (S1 := S3) ?_ (evs_cons (v := .tup xs.reverse) (S1 := S3) ?_ rfl))), R.bind_ok, newL_f (show ([.lst xs, .tup (xs.take j ++ xs.drop (j + 1)), .tup (xs.take j ++ [o] ++ xs.drop j), .tup xs.reverse] : List Wv).length ≤ line from (by decide : 4 ≤ line))]
        · rw [ev, ev_v rfl (by simp), R.bind_ok]
          show (R.of (some xs) S3).bind _ = _
          rw [R.of_some, R.bind_ok, newL_f (Nat.le_trans lx (by decide))]
        · rw [ev, eA, R.bind_ok, eE, R.bind_ok, add_tup (by omega)]
          rfl
        · rw [ev, ev, eA, R.bind_ok, ev, evs_cons (ev_v rfl (gd_nu go)) rfl, R.bind_ok, if_pos (show [o].length ≤ line from (by decide : 1 ≤ line)), R.bind_ok, add_tup (by simp only [List.length_singleton]; omega), R.of_some, R.bind_ok, eD, R.bind_ok, add_tup (by rw [List.length_append, List.length_singleton]; omega)]
          rfl
        · rw [ev, ev_v rfl (by simp), R.bind_ok]
          rfl
      let cand : List Wv := [.lst xs, .tup (xs.take j ++ xs.drop (j + 1)), .tup (xs.take j ++ [o] ++ xs.drop j), .tup xs.reverse] ++ [.tup (xs.take (j + 1) ++ xs.drop j)]
      obtain ⟨r, er, hr⟩ := pick_in (S := S3) (xs := cand) c0 h5
      have q6 : exS P (callN P (n + 2)) (.ret (.idx (.bin .add (.v 5) (.dsp false [.bin .add (.slc (.v 1) none (some (.bin .add (.v 4) (.k (.int 1))))) (.slc (.v 1) (some (.v 4)) none)])) (.v 3))) [.ref l, .tup xs, o, .int c, .int j, .lst [.lst xs, .tup (xs.take j ++ xs.drop (j + 1)), .tup (xs.take j ++ [o] ++ xs.drop j), .tup xs.reverse]] S3 = .ok (.rt r) S3 := by
        refine ret_ok ?_
        rw [ev, ev, ev_v rfl (by simp), R.bind_ok, ev, evs_cons (v := .tup (xs.take (j + 1) ++ xs.drop j)) (S1 := S3) ?_ rfl, R.bind_ok, newL_f (show ([.tup (xs.take (j + 1) ++ xs.drop j)] : List Wv).length ≤ line from (by decide : 1 ≤ line)), R.bind_ok, add_lst (by simp), R.of_some, R.bind_ok, ev_v rfl (by simp), R.bind_ok]
        · show R.of (idxW S3 (.lst cand) (.int c)) S3 = _
          rw [er]
          rfl
        · rw [ev, eF, R.bind_ok, eD, R.bind_ok, add_tup (by omega)]
          rfl
      refine ⟨r, S3, ?_, ?_, s3.mono (by omega), w02.trans w3⟩
      · exact exB_rt ((if_t (ev_and' ((evAll_t (isi .tuple S2)).trans ((evAll_t l5).trans rfl)))).trans ((exB_go q4).trans ((exB_go q5).trans (exB_rt q6))))
      · have gx : ∀ x ∈ xs, gd x = true := gds_iff.mp (show gds xs = true from gv)
        have dx : ∀ x ∈ xs, dep x ≤ deps xs := deps_le.mp (Nat.le_refl _)
        have hdv : dep (.tup xs) = deps xs + 1 := rfl
        have hwv : wei (.tup xs) = weis xs := rfl
        have wt1 := weis_take j xs
        have wt2 := weis_take (j + 1) xs
        have of : ∀ ys : List Wv, (∀ y ∈ ys, gd y = true ∧ dep y ≤ deps xs + 4) → weis ys ≤ 2 * weis xs + 1000 → Rs (.tup xs) (.tup ys) := fun ys h1 h2 => by
          refine ⟨gds_iff.mpr fun y hy => (h1 y hy).1, ?_, h2⟩
          have : deps ys ≤ deps xs + 4 := deps_le.mpr fun y hy => (h1 y hy).2
          show deps ys + 1 ≤ _
          rw [hdv]
          omega
        have ok : ∀ y ∈ xs, gd y = true ∧ dep y ≤ deps xs + 4 := fun y hy => ⟨gx y hy, Nat.le_trans (dx y hy) (by omega)⟩
        have hr' : r = .lst xs ∨ r = .tup (xs.take j ++ xs.drop (j + 1)) ∨ r = .tup (xs.take j ++ [o] ++ xs.drop j) ∨ r = .tup xs.reverse ∨ r = .tup (xs.take (j + 1) ++ xs.drop j) := by
          simpa [cand] using hr
        rcases hr' with rfl | rfl | rfl | rfl | rfl
        · exact ⟨gds_iff.mpr gx, by show deps xs + 1 ≤ _; rw [hdv]; omega, by show weis xs ≤ _; rw [hwv]; omega⟩
        · refine of _ (fun y hy => ?_) (by rw [weis_app]; omega)
          rcases List.mem_append.mp hy with hy | hy
          · exact ok y (List.mem_of_mem_take hy)
          · exact ok y (List.mem_of_mem_drop hy)
        · refine of _ (fun y hy => ?_) (by rw [weis_app, weis_app]; simp only [weis]; omega)
          rcases List.mem_append.mp hy with hy | hy
          · rcases List.mem_append.mp hy with hy | hy
            · exact ok y (List.mem_of_mem_take hy)
            · rw [List.mem_singleton.mp hy]
              exact ⟨go, by omega⟩
          · exact ok y (List.mem_of_mem_drop hy)
        · exact of _ (fun y hy => ok y (List.mem_reverse.mp hy)) (by rw [weis_rev]; omega)
        · refine of _ (fun y hy => ?_) (by rw [weis_app]; omega)
          rcases List.mem_append.mp hy with hy | hy
          · exact ok y (List.mem_of_mem_take hy)
          · exact ok y (List.mem_of_mem_drop hy)
    · rw [decide_eq_false h5] at l5
      exact ⟨o, S2, (exB_go ((if_f (ev_and' ((evAll_t (isi .tuple S2)).trans (evAll_f l5)))).trans exB_nil)).trans ((exB_go (no2 _)).trans (exB_rt fin)), ro, s2', w02⟩
  | str x =>
    have no0 : ∀ b, exS P (callN P (n + 2)) (.ite (.and [.isi (.v 1) [.tuple], .cmp .lt (.v 3) (.k (.int 5))]) b []) [.ref l, .str x, o, .int c, .unb, .unb] S2 = .ok (.nx [.ref l, .str x, o, .int c, .unb, .unb]) S2 := fun b => (if_f (ev_and' (evAll_f (isi .tuple S2)))).trans exB_nil
    have l4 := lt 4 S2
    by_cases h4 : c < 4
    · rw [decide_eq_true h4] at l4
      have hx := pf_str hv
      have hu : gd (.str (Txt.upper x)) = true ∧ (Txt.upper x).length ≤ 8 := by
        simp only [pf, Bool.or_eq_true, Bool.and_eq_true, decide_eq_true_eq] at hv
        rcases hv with hv | rfl
        · exact up_gd hv.2 hv.1
        · exact ⟨by decide +kernel, by decide +kernel⟩
      obtain ⟨z, ez, gz, lz⟩ := str_hi (S := S2) (x := x) (by have := hx.2; omega)
      have lx : ("x" : Str).length = 1 := by decide +kernel
      obtain ⟨r, er, hr⟩ := pick_in (S := S2) (xs := [.str (x ++ "x"), .str (Txt.upper x), .str z, .str STAR]) c0 h4
      have q6 : exS P (callN P (n + 2)) (.ret (.idx (.dsp false [.bin .add (.v 1) (.k (.str "x")), .p1 .upper (.v 1), .slc (.v 1) (some (.k (.int 1))) none, .k (.str "*")]) (.v 3))) [.ref l, .str x, o, .int c, .unb, .unb] S2 = .ok (.rt r) S2 := by
        refine ret_ok ?_
        have v1 : ev P (callN P (n + 2)) (.v 1) [.ref l, .str x, o, .int c, .unb, .unb] S2 = .ok (.str x) S2 := ev_v rfl (by simp)
        have u1 : pr1 .upper S2 (.str x) = some (.str (Txt.upper x)) := by
          show (if x.length ≤ 5592405 then some (Wv.str (Txt.upper x)) else none) = _
          rw [if_pos (by have := hx.2; omega)]
        rw [ev, ev, evs_cons (v := .str (x ++ "x")) (S1 := S2) (by rw [ev, v1, R.bind_ok, ev, R.bind_ok, add_str (by have := hx.2; omega)]; rfl) (evs_cons (v := .str (Txt.upper x)) (S1 := S2) (by rw [ev, v1, R.bind_ok, u1]; rfl) (evs_cons (v := .str z) (S1 := S2) (by
            rw [ev, v1, R.bind_ok, evO, ev, R.bind_ok]
            show ((R.of (some (some (1 : Int))) S2).bind _) = _
            rw [R.of_some, R.bind_ok, evO, R.bind_ok, ez]
            rfl) (evs_cons (v := .str STAR) (S1 := S2) (by rw [ev]) rfl))), R.bind_ok, newL_f (show ([.str (x ++ "x"), .str (Txt.upper x), .str z, .str STAR] : List Wv).length ≤ line from (by decide : 4 ≤ line)), R.bind_ok, ev_v rfl (by simp), R.bind_ok, er]
        rfl
      refine ⟨r, S2, (exB_go (no0 _)).trans (exB_rt ((if_t (ev_and' ((evAll_t (isi .str S2)).trans ((evAll_t l4).trans rfl)))).trans (exB_rt q6))), ?_, s2', w02⟩
      have of : ∀ y : Str, gd (.str y) = true → y.length ≤ 100 → Rs (.str x) (.str y) := fun y h1 h2 => ⟨h1, Nat.zero_le _, by show y.length ≤ _; omega⟩
      have hr' : r = .str (x ++ "x") ∨ r = .str (Txt.upper x) ∨ r = .str z ∨ r = .str STAR := by
        simpa using hr
      rcases hr' with rfl | rfl | rfl | rfl
      · exact of _ (gd_app gv (by decide +kernel)) (by rw [len_app, lx]; have := hx.2; omega)
      · exact of _ hu.1 (by have := hu.2; omega)
      · exact of _ (gz gv) (by have := hx.2; omega)
      · exact of _ star_gd (by decide +kernel)
    · rw [decide_eq_false h4] at l4
      exact ⟨o, S2, (exB_go (no0 _)).trans ((exB_go ((if_f (ev_and' ((evAll_t (isi .str S2)).trans (evAll_f l4)))).trans exB_nil)).trans (exB_rt fin)), ro, s2', w02⟩
  | _ => cases hv
theorem run_bent1 (f32 : P.fn 32 = some fd_law_bent_v1) (f31 : P.fn 31 = some fd_law_any_v1) (hd : P.fn 25 = some fd_law_draw_v0) : ∀ (m : Nat) (v : Wv) (B : Nat) (S : Sto), pf v = true → dep v ≤ m → wei v ≤ 50000 → Src l B S → B + 5 * (m + 1) ≤ 10 ^ 8 →
    ∃ r S', callN P (n + m + 3) 32 [.ref l, v] S = .ok r S' ∧ Rs v r ∧ Src l (B + 5 * (m + 1)) S' ∧ Drw l S S' := by
  intro m
  induction m with
  | zero =>
    intro v B S hv hm hw hs hB
    obtain ⟨r, S', e, rs, s', w'⟩ := run_flat1 (n := n) f31 hd hv hw hs (by omega)
    refine ⟨r, S', ?_, rs, s'.mono (by omega), w'⟩
    have nt : isTup v = false := by cases v <;> first | rfl | (simp [dep] at hm)
    have gv := pf_gd v hv
    rw [call_eq f32 rfl rfl (by decide)]
    have t1 : ev P (callN P (n + 2)) (.isi (.v 1) [.tuple]) [.ref l, v, .unb, .unb, .unb, .unb] S = .ok (.bl false) S := by
      rw [ev, ev_v rfl (gd_nu gv), R.bind_ok, isi_tup gv, nt]
      rfl
    show (exB P (callN P (n + 2)) [_, _, _, _, _] [.ref l, v, .unb, .unb, .unb, .unb] S).bind _ = _
    rw [exB_go ((if_f (ev_and' (evAll_f t1))).trans exB_nil), e, R.bind_ok]
    show R.ok r (sweep S.length r S') = _
    rw [sweep_same (Nat.le_of_eq w'.len)]
  | succ m ih =>
    intro v B S hv hm hw hs hB
    have gv := pf_gd v hv
    have e0 : n + (m + 1) + 3 = (n + m + 3) + 1 := by omega
    rw [e0, call_eq f32 rfl rfl (by decide)]
    -- the flat way, from any draw on
    have flat : ∀ (S1 : Sto), Drw l S S1 → Src l (B + 1) S1 → ev P (callN P (n + m + 3)) (.and [.isi (.v 1) [.tuple], .cmp .ne (.v 1) (.tup []), .cmp .gt (.fn 25 [.v 0, .k (.int 5)]) (.k (.int 0))]) [.ref l, v, .unb, .unb, .unb, .unb] S = .ok (.bl false) S1 →
        ∃ r S', (exB P (callN P (n + m + 3)) fd_law_bent_v1.body [.ref l, v, .unb, .unb, .unb, .unb] S).bind (fun f S1 => backF S.length f S1) = .ok r S' ∧ Rs v r ∧ Src l (B + 5 * (m + 1 + 1)) S' ∧ Drw l S S' := fun S1 w1 s1 t => by
      obtain ⟨r, S', e, rs, s', w'⟩ := run_flat1 (n := n + m + 1) f31 hd hv hw s1 (by omega)
      have w2 := w1.trans w'
      refine ⟨r, S', ?_, rs, s'.mono (by omega), w2⟩
      show (exB P (callN P (n + m + 3)) [_, _, _, _, _] [.ref l, v, .unb, .unb, .unb, .unb] S).bind _ = _
      rw [exB_go ((if_f t).trans exB_nil), e, R.bind_ok]
      show R.ok r (sweep S.length r S') = _
      rw [sweep_same (Nat.le_of_eq w2.len)]
    have t1 : ev P (callN P (n + m + 3)) (.isi (.v 1) [.tuple]) [.ref l, v, .unb, .unb, .unb, .unb] S = .ok (.bl (isTup v)) S := by
      rw [ev, ev_v rfl (gd_nu gv), R.bind_ok, isi_tup gv]
      rfl
    cases hT : isTup v with
    | false =>
      rw [hT] at t1
      exact flat S .rfl' (hs.mono (by omega)) (ev_and' (evAll_f t1))
    | true =>
      rw [hT] at t1
      obtain ⟨xs, rfl⟩ : ∃ xs, v = .tup xs := by
        cases v <;> first | exact ⟨_, rfl⟩ | cases hT
      have gx : gds xs = true := gv
      have t2 : ev P (callN P (n + m + 3)) (.cmp .ne (.v 1) (.tup [])) [.ref l, .tup xs, .unb, .unb, .unb, .unb] S = .ok (.bl (!xs.isEmpty)) S := by
        rw [ev, ev_v rfl (by simp), R.bind_ok, ev, evs, R.bind_ok, if_pos (show ([] : List Wv).length ≤ line from Nat.zero_le _), R.bind_ok, ne_nil gx]
        rfl
      cases hE : xs.isEmpty with
      | true =>
        rw [hE] at t2
        exact flat S .rfl' (hs.mono (by omega)) (ev_and' ((evAll_t t1).trans (evAll_f t2)))
      | false =>
        rw [hE] at t2
        obtain ⟨q, S1, e1, q0, q1, s1, w1⟩ := run_draw (n := n + m + 2) hd hs (by omega) (m := 5) (by decide) (by decide)
        have t3 : ev P (callN P (n + m + 3)) (.cmp .gt (.fn 25 [.v 0, .k (.int 5)]) (.k (.int 0))) [.ref l, .tup xs, .unb, .unb, .unb, .unb] S = .ok (.bl (decide (0 < q))) S1 := by
          rw [ev, ev_fn (evs_cons (ev_v rfl (by simp)) (evs_cons (by rw [ev]) rfl)) e1, R.bind_ok, ev, R.bind_ok, cmp_int_gt]
          rfl
        by_cases hq : 0 < q
        · rw [decide_eq_true hq] at t3
          have hne : 0 < xs.length := by
            cases xs with
            | nil => cases hE
            | cons => simp
          have lx : xs.length ≤ 50000 := Nat.le_trans (len_weis xs) hw
          obtain ⟨a, S2, e2, a0, a1, s2, w2⟩ := run_draw (n := n + m + 2) hd s1 (by omega) (m := (xs.length : Int)) (by omega) (by omega)
          obtain ⟨j, rfl⟩ : ∃ j : Nat, a = (j : Int) := ⟨a.toNat, by omega⟩
          have hj : j < xs.length := by omega
          have hxj : xs[j]? = some xs[j] := List.getElem?_eq_getElem hj
          have mem : xs[j] ∈ xs := List.getElem_mem hj
          have wj : wei xs[j] + 1 ≤ weis xs := weis_mem mem
          have wx : weis xs ≤ 50000 := hw
          have dj : dep xs[j] ≤ m := by
            have := deps_le.mp (Nat.le_refl (deps xs)) _ mem
            have h2 : deps xs + 1 ≤ m + 1 := hm
            omega
          have pj : pf xs[j] = true := pfs_iff.mp (show pfs xs = true from hv) _ mem
          obtain ⟨r, S3, e3, rs, s3, w3⟩ := ih xs[j] (B + 1 + 1) S2 pj dj (by omega) s2 (by omega)
          have w := (w1.trans w2).trans w3
          have ix := idx_tup (S := S2) (xs := xs) (k := (j : Int)) rfl hxj
          have q4 : exS P (callN P (n + m + 3)) (.asg (.nm 4) (.fn 25 [.v 0, .p1 .len (.v 1)])) [.ref l, .tup xs, .unb, .unb, .unb, .unb] S1 = .ok (.nx [.ref l, .tup xs, .unb, .unb, .int j, .unb]) S2 := by
            refine asg_ok (ev_fn (evs_cons (ev_v rfl (by simp)) (evs_cons (v := .int (xs.length : Int)) ?_ rfl)) e2) rfl
            rw [ev, ev_v rfl (by simp), R.bind_ok]
            rfl
          have lA : (xs.take j).length ≤ 50000 := by rw [List.length_take]; omega
          have lE : (xs.drop (j + 1)).length ≤ 50000 := by rw [List.length_drop]; omega
          have ej : ((j : Int) + 1) = ((j + 1 : Nat) : Int) := by omega
          have q5 : exS P (callN P (n + m + 3)) (.ret (.bin .add (.bin .add (.slc (.v 1) none (some (.v 4))) (.tup [.fn 32 [.v 0, .idx (.v 1) (.v 4)]])) (.slc (.v 1) (some (.bin .add (.v 4) (.k (.int 1)))) none))) [.ref l, .tup xs, .unb, .unb, .int j, .unb] S2 = .ok (.rt (.tup (xs.take j ++ [r] ++ xs.drop (j + 1)))) S3 := by
            refine ret_ok ?_
            have eA : ev P (callN P (n + m + 3)) (.slc (.v 1) none (some (.v 4))) [.ref l, .tup xs, .unb, .unb, .int j, .unb] S2 = .ok (.tup (xs.take j)) S2 := by
              rw [ev, ev_v rfl (by simp), R.bind_ok, evO, R.bind_ok, evO, ev_v rfl (by simp), R.bind_ok]
              show (R.of (some (some (j : Int))) S2).bind _ = _
              rw [R.of_some, R.bind_ok, slT_lo]
              rfl
            have eB : ev P (callN P (n + m + 3)) (.tup [.fn 32 [.v 0, .idx (.v 1) (.v 4)]]) [.ref l, .tup xs, .unb, .unb, .int j, .unb] S2 = .ok (.tup [r]) S3 := by
              rw [ev, evs_cons (ev_fn (evs_cons (ev_v rfl (by simp)) (evs_cons (v := xs[j]) (by rw [ev, ev_v rfl (by simp), R.bind_ok, ev_v rfl (by simp), R.bind_ok, ix]; rfl) rfl)) e3) rfl, R.bind_ok, if_pos (show [r].length ≤ line from (by decide : 1 ≤ line))]
            have eE : ev P (callN P (n + m + 3)) (.slc (.v 1) (some (.bin .add (.v 4) (.k (.int 1)))) none) [.ref l, .tup xs, .unb, .unb, .int j, .unb] S3 = .ok (.tup (xs.drop (j + 1))) S3 := by
              rw [ev, ev_v rfl (by simp), R.bind_ok, evO, ev, ev_v rfl (by simp), R.bind_ok, ev, R.bind_ok, add_ok, R.of_some, R.bind_ok]
              show ((R.of (some (some ((j : Int) + 1))) S3).bind _) = _
              rw [R.of_some, R.bind_ok, evO, R.bind_ok, ej, slT_hi]
              rfl
            rw [ev, ev, eA, R.bind_ok, eB, R.bind_ok, add_tup (by rw [List.length_singleton]; omega), R.of_some, R.bind_ok, eE, R.bind_ok, add_tup (by rw [List.length_append, List.length_singleton]; omega)]
            rfl
          refine ⟨.tup (xs.take j ++ [r] ++ xs.drop (j + 1)), S3, ?_, ?_, s3.mono (by omega), w⟩
          · show (exB P (callN P (n + m + 3)) [_, _, _, _, _] [.ref l, .tup xs, .unb, .unb, .unb, .unb] S).bind _ = _
            rw [exB_rt ((if_t (ev_and' ((evAll_t t1).trans ((evAll_t t2).trans ((evAll_t t3).trans rfl))))).trans ((exB_go q4).trans (exB_rt q5))), R.bind_ok]
            show R.ok _ (sweep S.length _ S3) = _
            rw [sweep_same (Nat.le_of_eq w.len)]
          · have gx' := gds_iff.mp gx
            have dx := deps_le.mp (Nat.le_refl (deps xs))
            refine ⟨gds_iff.mpr fun y hy => ?_, ?_, ?_⟩
            · rcases List.mem_append.mp hy with hy | hy
              · rcases List.mem_append.mp hy with hy | hy
                · exact gx' y (List.mem_of_mem_take hy)
                · rw [List.mem_singleton.mp hy]
                  exact rs.g
              · exact gx' y (List.mem_of_mem_drop hy)
            · have h1 : deps (xs.take j ++ [r] ++ xs.drop (j + 1)) ≤ deps xs + 5 := deps_le.mpr fun y hy => by
                rcases List.mem_append.mp hy with hy | hy
                · rcases List.mem_append.mp hy with hy | hy
                  · have := dx y (List.mem_of_mem_take hy)
                    omega
                  · rw [List.mem_singleton.mp hy]
                    have h1 := rs.d
                    have h2 := dx _ mem
                    omega
                · have := dx y (List.mem_of_mem_drop hy)
                  omega
              show deps _ + 1 ≤ deps xs + 1 + 5
              omega
            · have h1 := weis_take j xs
              have h2 : weis (xs.drop j) = wei xs[j] + 1 + weis (xs.drop (j + 1)) := by
                rw [List.drop_eq_getElem_cons hj]
                rfl
              have h3 := rs.w
              show weis _ ≤ 2 * weis xs + 1000
              rw [weis_app, weis_app]
              simp only [weis]
              omega
        · rw [decide_eq_false hq] at t3
          exact flat S1 w1 s1 (ev_and' ((evAll_t t1).trans ((evAll_t t2).trans (evAll_f t3))))
end Pe

set_option Elab.async false
set_option linter.all false
set_option maxRecDepth 100000
set_option maxHeartbeats 4000000
/-! Runs: guards and stacks, as the program tells them. -/
namespace Pe
open PySem L2
variable {P : Pg} {n l B : Nat} {S : Sto}
theorem evAll_c {F : Fo} {e : C} {es : List C} {r : Ev} {b c : Bool} (h : ev P F e r S = .ok (.bl b) S) (h2 : b = true → evAll P F es r S = .ok c S) : evAll P F (e :: es) r S = .ok (b && c) S := by
  cases b with
  | true => exact (evAll_t h).trans (h2 rfl)
  | false => exact evAll_f h
theorem evAny_c {F : Fo} {e : C} {es : List C} {r : Ev} {b c : Bool} (h : ev P F e r S = .ok (.bl b) S) (h2 : b = false → evAny P F es r S = .ok c S) : evAny P F (e :: es) r S = .ok (b || c) S := by
  cases b with
  | true => exact evAny_t h
  | false => exact (evAny_f h).trans (h2 rfl)
theorem beq_dec (y x : Str) : (y == x) = decide (x = y) := by
  by_cases h : x = y
  · subst h
    rw [decide_eq_true rfl, beq_self_eq_true]
  · rw [decide_eq_false h, beq_eq_false_iff_ne]
    exact fun z => h z.symm
theorem evAll_n {F : Fo} {r : Ev} : evAll P F [] r S = .ok true S := rfl
theorem evAny_n {F : Fo} {r : Ev} : evAny P F [] r S = .ok false S := rfl
theorem if_c {F : Fo} {t : C} {a b : List Pe.S} {r : Ev} {k : Bool} {S1 : Sto} (h : ev P F t r S = .ok (.bl k) S1) : exS P F (.ite t a b) r S = if k = true then exB P F a r S1 else exB P F b r S1 := by
  cases k with
  | true => rw [if_pos rfl]; exact if_t h
  | false => rw [if_neg Bool.false_ne_true]; exact if_f h
abbrev KEEP : Str := "keep"
abbrev RAIS : Str := "raise"
abbrev PASS : Str := "pass"
abbrev DROP : Str := "drop"
abbrev BACK : Str := "back"
/-- a tuple of at least one name of a kind -/
def stK (ls : List Str) : Wv → Bool
  | .tup xs => !xs.isEmpty && xs.all (inL ls)
  | _ => false
/-- the word of an action -/
def kindA : Wv → Nat
  | .str x => if x = KEEP then 1 else if x = RAIS then 2 else if x = PASS then 3 else 0
  | _ => 0
mutual
/-- an action -/
def stA (ls : List Str) : Wv → Bool
  | .str x => decide (x = DROP) || decide (x = BACK)
  | .tup xs => stA2 ls xs
  | _ => false
def stA2 (ls : List Str) : List Wv → Bool
  | [] => false
  | a :: r => stA3 ls a r
def stA3 (ls : List Str) (a : Wv) : List Wv → Bool
  | [] => false
  | b :: r => r.isEmpty && stAB ls (kindA a) b
def stAB (ls : List Str) (k : Nat) : Wv → Bool
  | .tup xs => if k = 1 then !xs.isEmpty && xs.all (inL ls) else if k = 2 then okF (fs ls (.tup xs)) else if k = 3 then stCs ls xs else false
  | b => if k = 2 then okF (fs ls b) else false
def stCs (ls : List Str) : List Wv → Bool
  | [] => true
  | x :: xs => stC ls x && stCs ls xs
/-- a clause -/
def stC (ls : List Str) : Wv → Bool
  | .tup xs => stC2 ls xs
  | _ => false
def stC2 (ls : List Str) : List Wv → Bool
  | [] => false
  | a :: r => stC3 ls a r
def stC3 (ls : List Str) (a : Wv) : List Wv → Bool
  | [] => false
  | b :: r => r.isEmpty && (stK ls a && stA ls b)
end
/-- a guard -/
def stG (ls : List Str) : Wv → Bool
  | .tup xs => xs.all (stC ls)
  | _ => false
def stS (ls : List Str) : Wv → Bool
  | .tup xs => xs.all (stG ls)
  | _ => false
theorem stCs_all (ls : List Str) : ∀ xs, stCs ls xs = xs.all (stC ls)
  | [] => rfl
  | x :: xs => by rw [stCs, stCs_all ls xs, List.all_cons]
theorem stC_2 {ls : List Str} {a b : Wv} : stC ls (.tup [a, b]) = (stK ls a && stA ls b) := by
  rw [stC, stC2, stC3]
  rfl
theorem stA_2 {ls : List Str} {a b : Wv} : stA ls (.tup [a, b]) = if kindA a = 1 then stK ls b else if kindA a = 2 then okF (fs ls b) else if kindA a = 3 then stG ls b else false := by
  rw [stA, stA2, stA3]
  show (true && _) = _
  rw [Bool.true_and]
  generalize kindA a = k
  have key : ∀ b : Wv, isTup b = false → stAB ls k b = if k = 2 then okF (fs ls b) else false := fun b h => by
    cases b <;> first | rfl | cases h
  cases hb : isTup b with
  | true =>
    obtain ⟨xs, rfl⟩ : ∃ xs, b = .tup xs := by cases b <;> first | exact ⟨_, rfl⟩ | cases hb
    rw [stAB, stCs_all]
    rfl
  | false =>
    have h1 : stK ls b = false := by cases b <;> first | rfl | cases hb
    have h2 : stG ls b = false := by cases b <;> first | rfl | cases hb
    rw [key b hb, h1, h2]
    by_cases e : k = 2
    · subst e
      rfl
    · rw [if_neg e, if_neg e]
      split
      · rfl
      · split <;> rfl
theorem kind_1 {x : Str} (h : x = KEEP) : kindA (.str x) = 1 := if_pos h
theorem kind_2 {x : Str} (h1 : ¬ x = KEEP) (h : x = RAIS) : kindA (.str x) = 2 := (if_neg h1).trans (if_pos h)
theorem kind_3 {x : Str} (h1 : ¬ x = KEEP) (h2 : ¬ x = RAIS) (h : x = PASS) : kindA (.str x) = 3 := (if_neg h1).trans ((if_neg h2).trans (if_pos h))
theorem kind_0 {x : Str} (h1 : ¬ x = KEEP) (h2 : ¬ x = RAIS) (h3 : ¬ x = PASS) : kindA (.str x) = 0 := (if_neg h1).trans ((if_neg h2).trans (if_neg h3))
theorem stC_no {ls : List Str} {v : Wv} (h : isPr v = false) : stC ls v = false := by
  cases v <;> first | rfl | skip
  rename_i xs
  match xs, h with
  | [], _ => rfl
  | [a], _ => rfl
  | [a, b], h => cases h
  | a :: b :: c :: r, _ => rfl
theorem isPr_of {v : Wv} (h : isPr v = true) : ∃ a b, v = .tup [a, b] := by
  cases v <;> first | (cases h; done) | skip
  rename_i xs
  match xs, h with
  | [a, b], _ => exact ⟨a, b, rfl⟩
structure HasG (P : Pg) : Prop where
  m : HasM0 P
  f36 : P.fn 36 = some fd_is_pair
  f37 : P.fn 37 = some fd_is_part
  f38 : P.fn 38 = some fd_count_stars
  f39 : P.fn 39 = some fd_is_form
def fd_is_stack : Fd := ⟨2, 3, false, [.ret (.and [.isi (.v 1) [.tuple], .p1 .all (.lc false [2] (.nm 2) (.any (.v 1)) [] (.fn 47 [.v 0, .v 2]))])]⟩
def fd_is_guard : Fd := ⟨2, 3, false, [.ret (.and [.isi (.v 1) [.tuple], .p1 .all (.lc false [2] (.nm 2) (.any (.v 1)) [] (.fn 46 [.v 0, .v 2]))])]⟩
def fd_is_clause : Fd := ⟨2, 2, false, [.ret (.and [.fn 36 [.v 1], .fn 44 [.v 0, .idx (.v 1) (.k (.int 0))], .fn 45 [.v 0, .idx (.v 1) (.k (.int 1))]])]⟩
def fd_are_kinds : Fd := ⟨2, 3, false, [.ret (.and [.isi (.v 1) [.tuple], .cmp .ne (.v 1) (.tup []), .p1 .all (.lc false [2] (.nm 2) (.any (.v 1)) [] (.mth 9 (.v 0) [.v 2]))])]⟩
def fd_is_action : Fd := ⟨2, 5, false, [.ite (.not (.fn 36 [.v 1])) [.ret (.and [.isi (.v 1) [.str], .cmp .isin (.v 1) (.tup [.k (.str "drop"), .k (.str "back")])])] [], .ite (.not (.isi (.idx (.v 1) (.k (.int 0))) [.str])) [.ret (.k (.bl false))] [], .mat 1 (.pair "keep" 2) [.ret (.fn 44 [.v 0, .v 2])] [.mat 1 (.pair "raise" 3) [.ret (.fn 39 [.v 0, .v 3])] [.mat 1 (.pair "pass" 4) [.ret (.fn 47 [.v 0, .v 4])] [.mat 1 .wild [.ret (.k (.bl false))] []]]]]⟩
structure HasStk (P : Pg) : Prop where
  f : HasF P
  f44 : P.fn 44 = some fd_are_kinds
  f45 : P.fn 45 = some fd_is_action
  f46 : P.fn 46 = some fd_is_clause
  f47 : P.fn 47 = some fd_is_guard
  f48 : P.fn 48 = some fd_is_stack
theorem len_line {xs : List Wv} (h : weis xs ≤ 200000) : xs.length ≤ line := Nat.le_trans (Nat.le_trans (len_weis xs) h) (by decide)
/-- all([f(x) for x in a tuple]) -/
theorem all_lc {F : Fo} {w0 : Wv} {xs : List Wv} {e : C} (f : Wv → Bool) (lx : xs.length ≤ line) (h : ∀ x ∈ xs, ev P F e [w0, .tup xs, x] S = .ok (.bl (f x)) S) :
    ev P F (.p1 .all (.lc false [2] (.nm 2) (.any (.v 1)) [] e)) [w0, .tup xs, .unb] S = .ok (.bl (xs.all f)) S := by
  have hi : evI P F (.any (.v 1)) [w0, .tup xs, .unb] S = .ok ⟨xs, none⟩ S := by
    rw [evI, ev_v rfl (by simp), R.bind_ok]
    rfl
  have e := lc_map (bx := false) (own := [2]) (g := .nm 2) (cond := []) (e := e) hi lx (fun x => .bl (f x)) rfl (fun y hy => ⟨[w0, .tup xs, y], rfl, rfl, h y hy⟩)
  rw [ev, e, newL_f (by rw [List.length_map]; exact lx), R.bind_ok, all_ok]
  rfl
theorem run_arekinds (H : HasStk P) {s : Nat} {ls : List Str} (hk : KAt S s ls) {v : Wv} (hv : gd v = true) (hw : wei v ≤ 200000) : callN P (n + 2) 44 [.ref s, v] S = .ok (.bl (stK ls v)) S := by
  rw [call_eq H.f44 rfl rfl (by decide)]
  have nu := gd_nu hv
  have mm : methOf P S (.ref s) 9 = some 18 := by
    obtain ⟨q1, q2, q3, q4, _⟩ := hk
    unfold methOf
    simp only [q4]
    exact H.f.m.m9
  have i1 : ev P (callN P (n + 1)) (.isi (.v 1) [.tuple]) [.ref s, v, .unb] S = .ok (.bl (isTup v)) S := by
    rw [ev, ev_v rfl nu, R.bind_ok, isi_tup hv]
    rfl
  show (exB P (callN P (n + 1)) [_] [.ref s, v, .unb] S).bind _ = _
  refine done_rt (exB_rt (ret_ok ?_))
  cases hT : isTup v with
  | false =>
    rw [hT] at i1
    have : stK ls v = false := by cases v <;> first | rfl | cases hT
    rw [this]
    exact ev_and' (evAll_f i1)
  | true =>
    rw [hT] at i1
    obtain ⟨xs, rfl⟩ : ∃ xs, v = .tup xs := by cases v <;> first | exact ⟨_, rfl⟩ | cases hT
    have gx : gds xs = true := by simpa [gd] using hv
    have i2 : ev P (callN P (n + 1)) (.cmp .ne (.v 1) (.tup [])) [.ref s, .tup xs, .unb] S = .ok (.bl (!xs.isEmpty)) S := by
      rw [ev, ev_v rfl (by simp), R.bind_ok, ev, evs, R.bind_ok, if_pos (show ([] : List Wv).length ≤ line from Nat.zero_le _), R.bind_ok, ne_nil gx]
      rfl
    have i3 : ev P (callN P (n + 1)) (.p1 .all (.lc false [2] (.nm 2) (.any (.v 1)) [] (.mth 9 (.v 0) [.v 2]))) [.ref s, .tup xs, .unb] S = .ok (.bl (xs.all (inL ls))) S := by
      refine all_lc (inL ls) (len_line hw) fun x hx => ?_
      have gx' := gds_iff.mp gx x hx
      rw [ev, ev_v rfl (by simp), R.bind_ok, mm]
      dsimp only
      rw [evs_cons (ev_v rfl (gd_nu gx')) rfl, R.bind_ok, run_has (n := n) (S := S) H.f.m.toHasM0 gx' hk]
    exact ev_and' ((evAll_t i1).trans (evAll_c i2 fun _ => (evAll_c i3 fun _ => evAll_n).trans (by rw [Bool.and_true])))
theorem eq_str2 {x y : Str} : eqW S (.str x) (.str y) = some (decide (x = y)) := rfl
/-- guards, clauses, actions -/
theorem run_stk (H : HasStk P) {s : Nat} {ls : List Str} (hk : KAt S s ls) : ∀ m : Nat,
    (∀ (k : Nat) (v : Wv), gd v = true → wei v ≤ 200000 → dep v ≤ m → m + 8 ≤ k → callN P k 47 [.ref s, v] S = .ok (.bl (stG ls v)) S) ∧
    (∀ (k : Nat) (v : Wv), gd v = true → wei v ≤ 200000 → dep v ≤ m → m + 8 ≤ k → callN P k 46 [.ref s, v] S = .ok (.bl (stC ls v)) S) ∧
    (∀ (k : Nat) (v : Wv), gd v = true → wei v ≤ 200000 → dep v ≤ m → m + 8 ≤ k → callN P k 45 [.ref s, v] S = .ok (.bl (stA ls v)) S) := by
  intro m
  induction m with
  | zero =>
    have no : ∀ v : Wv, dep v ≤ 0 → isTup v = false := fun v h => by
      cases v <;> first | rfl | (simp [dep] at h; done)
    have nop : ∀ v : Wv, dep v ≤ 0 → isPr v = false := fun v h => by
      cases v <;> first | rfl | (simp [dep] at h; done)
    refine ⟨fun k v hv hw hd hm => ?_, fun k v hv hw hd hm => ?_, fun k v hv hw hd hm => ?_⟩
    · obtain ⟨n, rfl⟩ : ∃ n, k = n + 1 := ⟨k - 1, by omega⟩
      rw [call_eq H.f47 rfl rfl (by decide)]
      have i1 : ev P (callN P n) (.isi (.v 1) [.tuple]) [.ref s, v, .unb] S = .ok (.bl false) S := by
        rw [ev, ev_v rfl (gd_nu hv), R.bind_ok, isi_tup hv, no v hd]
        rfl
      show (exB P (callN P n) [_] [.ref s, v, .unb] S).bind _ = _
      have : stG ls v = false := by
        have := no v hd
        cases v <;> first | rfl | cases this
      rw [this]
      exact done_rt (exB_rt (ret_ok (ev_and' (evAll_f i1))))
    · obtain ⟨n, rfl⟩ : ∃ n, k = n + 2 := ⟨k - 2, by omega⟩
      rw [call_eq H.f46 rfl rfl (by decide)]
      have i1 : ev P (callN P (n + 1)) (.fn 36 [.v 1]) [.ref s, v] S = .ok (.bl (isPr v)) S := ev_fn (evs_cons (ev_v rfl (gd_nu hv)) rfl) (run_pair H.f hv)
      rw [nop v hd] at i1
      show (exB P (callN P (n + 1)) [_] [.ref s, v] S).bind _ = _
      rw [stC_no (nop v hd)]
      exact done_rt (exB_rt (ret_ok (ev_and' (evAll_f i1))))
    · obtain ⟨n, rfl⟩ : ∃ n, k = n + 2 := ⟨k - 2, by omega⟩
      rw [call_eq H.f45 rfl rfl (by decide)]
      have nu := gd_nu hv
      have i1 : ev P (callN P (n + 1)) (.fn 36 [.v 1]) [.ref s, v, .unb, .unb, .unb] S = .ok (.bl (isPr v)) S := ev_fn (evs_cons (ev_v rfl nu) rfl) (run_pair H.f hv)
      rw [nop v hd] at i1
      have i2 : ev P (callN P (n + 1)) (.isi (.v 1) [.str]) [.ref s, v, .unb, .unb, .unb] S = .ok (.bl (isS v)) S := by
        rw [ev, ev_v rfl nu, R.bind_ok, isi_s hv]
        rfl
      show (exB P (callN P (n + 1)) [_, _, _] [.ref s, v, .unb, .unb, .unb] S).bind _ = _
      refine done_rt (exB_rt ((if_t (ev_not' i1)).trans (exB_rt (ret_ok (ev_and' (?_ : _ = R.ok (stA ls v) S))))))
      cases hs : isS v with
      | false =>
        rw [hs] at i2
        have : stA ls v = false := by
          have := no v hd
          cases v <;> first | rfl | (cases hs; done) | cases this
        rw [this]
        exact evAll_f i2
      | true =>
        rw [hs] at i2
        obtain ⟨x, rfl⟩ : ∃ x, v = .str x := by cases v <;> first | exact ⟨_, rfl⟩ | cases hs
        have i3 : ev P (callN P (n + 1)) (.cmp .isin (.v 1) (.tup [.k (.str "drop"), .k (.str "back")])) [.ref s, .str x, .unb, .unb, .unb] S = .ok (.bl (decide (x = DROP) || decide (x = BACK))) S := by
          rw [ev, ev_v rfl (by simp), R.bind_ok, ev, evs_cons (by rw [ev]) (evs_cons (by rw [ev]) rfl), R.bind_ok, if_pos (show [Wv.str "drop", .str "back"].length ≤ line from (by decide : 2 ≤ line)), R.bind_ok]
          show R.of (some (Wv.bl ([Wv.str DROP, .str BACK].any fun y => eqF y (.str x)))) S = _
          simp only [List.any_cons, List.any_nil, Bool.or_false, eqF, q_some]
          rw [beq_dec, beq_dec]
        exact (evAll_t i2).trans ((evAll_c i3 fun _ => evAll_n).trans (by rw [Bool.and_true, stA]))
  | succ m ih =>
    obtain ⟨ihG, ihC, ihA⟩ := ih
    refine ⟨fun k v hv hw hd hm => ?_, fun k v hv hw hd hm => ?_, fun k v hv hw hd hm => ?_⟩
    · obtain ⟨n, rfl⟩ : ∃ n, k = n + 1 := ⟨k - 1, by omega⟩
      rw [call_eq H.f47 rfl rfl (by decide)]
      have i1 : ev P (callN P n) (.isi (.v 1) [.tuple]) [.ref s, v, .unb] S = .ok (.bl (isTup v)) S := by
        rw [ev, ev_v rfl (gd_nu hv), R.bind_ok, isi_tup hv]
        rfl
      show (exB P (callN P n) [_] [.ref s, v, .unb] S).bind _ = _
      refine done_rt (exB_rt (ret_ok ?_))
      cases hT : isTup v with
      | false =>
        rw [hT] at i1
        have : stG ls v = false := by cases v <;> first | rfl | cases hT
        rw [this]
        exact ev_and' (evAll_f i1)
      | true =>
        rw [hT] at i1
        obtain ⟨xs, rfl⟩ : ∃ xs, v = .tup xs := by cases v <;> first | exact ⟨_, rfl⟩ | cases hT
        have gx : gds xs = true := by simpa [gd] using hv
        have i3 : ev P (callN P n) (.p1 .all (.lc false [2] (.nm 2) (.any (.v 1)) [] (.fn 46 [.v 0, .v 2]))) [.ref s, .tup xs, .unb] S = .ok (.bl (xs.all (stC ls))) S := by
          refine all_lc (stC ls) (len_line hw) fun x hx => ?_
          have gx' := gds_iff.mp gx x hx
          have wx : wei x + 1 ≤ weis xs := weis_mem hx
          have dx : dep x ≤ m := by
            simp only [dep] at hd
            have := deps_le (n := deps xs).mp (Nat.le_refl _) x hx
            omega
          exact ev_fn (evs_cons (ev_v rfl (by simp)) (evs_cons (ev_v rfl (gd_nu gx')) rfl)) (ihC n x gx' (by simp only [wei] at hw; omega) dx (by omega))
        exact ev_and' ((evAll_t i1).trans ((evAll_c i3 fun _ => evAll_n).trans (by rw [Bool.and_true, stG])))
    · obtain ⟨n, rfl⟩ : ∃ n, k = n + 3 := ⟨k - 3, by omega⟩
      rw [call_eq H.f46 rfl rfl (by decide)]
      have nu := gd_nu hv
      have i1 : ev P (callN P (n + 2)) (.fn 36 [.v 1]) [.ref s, v] S = .ok (.bl (isPr v)) S := ev_fn (evs_cons (ev_v rfl nu) rfl) (run_pair H.f hv)
      show (exB P (callN P (n + 2)) [_] [.ref s, v] S).bind _ = _
      refine done_rt (exB_rt (ret_ok (ev_and' (?_ : _ = R.ok (stC ls v) S))))
      cases hp : isPr v with
      | false =>
        rw [hp] at i1
        rw [stC_no hp]
        exact evAll_f i1
      | true =>
        rw [hp] at i1
        obtain ⟨a, b, rfl⟩ := isPr_of hp
        obtain ⟨ha, hb⟩ := gd2 hv
        have wab : wei a ≤ 200000 ∧ wei b ≤ 200000 := by simp only [wei, weis] at hw; omega
        have db : dep b ≤ m := by simp only [dep, deps] at hd; omega
        have i2 : ev P (callN P (n + 2)) (.fn 44 [.v 0, .idx (.v 1) (.k (.int 0))]) [.ref s, .tup [a, b]] S = .ok (.bl (stK ls a)) S := by
          refine ev_fn (evs_cons (ev_v rfl (by simp)) (evs_cons (v := a) (S1 := S) ?_ rfl)) (run_arekinds H hk ha wab.1)
          rw [ev, ev_v rfl (by simp), R.bind_ok, ev, R.bind_ok, idx0]
          rfl
        have i3 : ev P (callN P (n + 2)) (.fn 45 [.v 0, .idx (.v 1) (.k (.int 1))]) [.ref s, .tup [a, b]] S = .ok (.bl (stA ls b)) S := by
          refine ev_fn (evs_cons (ev_v rfl (by simp)) (evs_cons (v := b) (S1 := S) ?_ rfl)) (ihA (n + 2) b hb wab.2 db (by omega))
          rw [ev, ev_v rfl (by simp), R.bind_ok, ev, R.bind_ok, idx1]
          rfl
        rw [stC_2]
        exact (evAll_t i1).trans (evAll_c i2 fun _ => (evAll_c i3 fun _ => evAll_n).trans (by rw [Bool.and_true]))
    · obtain ⟨n, rfl⟩ : ∃ n, k = n + 3 := ⟨k - 3, by omega⟩
      rw [call_eq H.f45 rfl rfl (by decide)]
      have nu := gd_nu hv
      have i1 : ev P (callN P (n + 2)) (.fn 36 [.v 1]) [.ref s, v, .unb, .unb, .unb] S = .ok (.bl (isPr v)) S := ev_fn (evs_cons (ev_v rfl nu) rfl) (run_pair H.f hv)
      show (exB P (callN P (n + 2)) [_, _, _] [.ref s, v, .unb, .unb, .unb] S).bind _ = _
      cases hp : isPr v with
      | false =>
        rw [hp] at i1
        have i2 : ev P (callN P (n + 2)) (.isi (.v 1) [.str]) [.ref s, v, .unb, .unb, .unb] S = .ok (.bl (isS v)) S := by
          rw [ev, ev_v rfl nu, R.bind_ok, isi_s hv]
          rfl
        refine done_rt (exB_rt ((if_t (ev_not' i1)).trans (exB_rt (ret_ok (ev_and' (?_ : _ = R.ok (stA ls v) S))))))
        cases hs : isS v with
        | false =>
          rw [hs] at i2
          have : stA ls v = false := by
            cases v <;> first | rfl | (cases hs; done) | skip
            rename_i xs
            match xs, hp with
            | [], _ => rfl
            | [a], _ => rfl
            | [a, b], hp => cases hp
            | a :: b :: c :: r, _ => rfl
          rw [this]
          exact evAll_f i2
        | true =>
          rw [hs] at i2
          obtain ⟨x, rfl⟩ : ∃ x, v = .str x := by cases v <;> first | exact ⟨_, rfl⟩ | cases hs
          have i3 : ev P (callN P (n + 2)) (.cmp .isin (.v 1) (.tup [.k (.str "drop"), .k (.str "back")])) [.ref s, .str x, .unb, .unb, .unb] S = .ok (.bl (decide (x = DROP) || decide (x = BACK))) S := by
            rw [ev, ev_v rfl (by simp), R.bind_ok, ev, evs_cons (by rw [ev]) (evs_cons (by rw [ev]) rfl), R.bind_ok, if_pos (show [Wv.str "drop", .str "back"].length ≤ line from (by decide : 2 ≤ line)), R.bind_ok]
            show R.of (some (Wv.bl ([Wv.str DROP, .str BACK].any fun y => eqF y (.str x)))) S = _
            simp only [List.any_cons, List.any_nil, Bool.or_false, eqF, q_some]
            rw [beq_dec, beq_dec]
          exact (evAll_t i2).trans ((evAll_c i3 fun _ => evAll_n).trans (by rw [Bool.and_true, stA]))
      | true =>
        rw [hp] at i1
        obtain ⟨a, b, rfl⟩ := isPr_of hp
        obtain ⟨ha, hb⟩ := gd2 hv
        have wab : wei a ≤ 200000 ∧ wei b ≤ 200000 := by simp only [wei, weis] at hw; omega
        have db : dep b ≤ m := by simp only [dep, deps] at hd; omega
        rw [exB_go ((if_f (ev_not' i1)).trans exB_nil)]
        have i2 : ev P (callN P (n + 2)) (.isi (.idx (.v 1) (.k (.int 0))) [.str]) [.ref s, .tup [a, b], .unb, .unb, .unb] S = .ok (.bl (isS a)) S := by
          rw [ev, ev, ev_v rfl (by simp), R.bind_ok, ev, R.bind_ok, idx0, R.of_some, R.bind_ok, isi_s ha]
          rfl
        have no : exB P (callN P (n + 2)) [.ret (.k (.bl false))] [.ref s, .tup [a, b], .unb, .unb, .unb] S = .ok (.rt (.bl false)) S := exB_rt (ret_ok (by rw [ev]))
        cases hs : isS a with
        | false =>
          rw [hs] at i2
          have : stA ls (.tup [a, b]) = false := by
            rw [stA_2]
            cases a <;> first | rfl | cases hs
          rw [this]
          exact done_rt (exB_rt ((if_t (ev_not' i2)).trans no))
        | true =>
          rw [hs] at i2
          obtain ⟨x, rfl⟩ : ∃ x, a = .str x := by cases a <;> first | exact ⟨_, rfl⟩ | cases hs
          rw [exB_go ((if_f (ev_not' i2)).trans exB_nil), stA_2]
          have g1 : getV [.ref s, .tup [.str x, b], .unb, .unb, .unb] 1 S = .ok (.tup [.str x, b]) S := getV_some rfl (by simp)
          have mt : ∀ (y : Str) (j : Nat), matP S (.pair y j) (.tup [.str x, b]) [.ref s, .tup [.str x, b], .unb, .unb, .unb] = if x = y then (if j < 5 then some (some ([Wv.ref s, .tup [.str x, b], .unb, .unb, .unb].set j b)) else none) else some none := fun y j => by
            show ((eqW S (.str x) (.str y)).bind fun k => if k = true then _ else _) = _
            rw [eq_str2, Option.bind_some]
            by_cases h : x = y
            · rw [decide_eq_true h, if_pos rfl, if_pos h]
              rfl
            · rw [decide_eq_false h, if_neg Bool.false_ne_true, if_neg h]
          have nub := gd_nu hb
          by_cases h1 : x = KEEP
          · rw [kind_1 h1, if_pos rfl]
            refine done_rt (exB_rt ?_)
            rw [exS, g1, R.bind_ok, mt, if_pos h1, if_pos (by decide)]
            exact exB_rt (ret_ok (ev_fn (evs_cons (ev_v rfl (by simp)) (evs_cons (ev_v rfl nub) rfl)) (run_arekinds H hk hb wab.2)))
          · by_cases h2 : x = RAIS
            · rw [kind_2 h1 h2, if_neg (by decide), if_pos rfl]
              refine done_rt (exB_rt ?_)
              rw [exS, g1, R.bind_ok, mt, if_neg h1]
              refine exB_rt ?_
              rw [exS, g1, R.bind_ok, mt, if_pos h2, if_pos (by decide)]
              exact exB_rt (ret_ok (ev_fn (evs_cons (ev_v rfl (by simp)) (evs_cons (ev_v rfl nub) rfl)) (run_form H.f hk hb wab.2 db (by omega))))
            · by_cases h3 : x = PASS
              · rw [kind_3 h1 h2 h3, if_neg (by decide), if_neg (by decide), if_pos rfl]
                refine done_rt (exB_rt ?_)
                rw [exS, g1, R.bind_ok, mt, if_neg h1]
                refine exB_rt ?_
                rw [exS, g1, R.bind_ok, mt, if_neg h2]
                refine exB_rt ?_
                rw [exS, g1, R.bind_ok, mt, if_pos h3, if_pos (by decide)]
                exact exB_rt (ret_ok (ev_fn (evs_cons (ev_v rfl (by simp)) (evs_cons (ev_v rfl nub) rfl)) (ihG (n + 2) b hb wab.2 db (by omega))))
              · rw [kind_0 h1 h2 h3, if_neg (by decide), if_neg (by decide), if_neg (by decide)]
                refine done_rt (exB_rt ?_)
                rw [exS, g1, R.bind_ok, mt, if_neg h1]
                refine exB_rt ?_
                rw [exS, g1, R.bind_ok, mt, if_neg h2]
                refine exB_rt ?_
                rw [exS, g1, R.bind_ok, mt, if_neg h3]
                refine exB_rt ?_
                rw [exS, g1, R.bind_ok]
                exact no
theorem run_stack (H : HasStk P) {s : Nat} {ls : List Str} (hk : KAt S s ls) {m k : Nat} {v : Wv} (hv : gd v = true) (hw : wei v ≤ 200000) (hd : dep v ≤ m) (hm : m + 9 ≤ k) : callN P k 48 [.ref s, v] S = .ok (.bl (stS ls v)) S := by
  obtain ⟨n, rfl⟩ : ∃ n, k = n + 1 := ⟨k - 1, by omega⟩
  rw [call_eq H.f48 rfl rfl (by decide)]
  have i1 : ev P (callN P n) (.isi (.v 1) [.tuple]) [.ref s, v, .unb] S = .ok (.bl (isTup v)) S := by
    rw [ev, ev_v rfl (gd_nu hv), R.bind_ok, isi_tup hv]
    rfl
  show (exB P (callN P n) [_] [.ref s, v, .unb] S).bind _ = _
  refine done_rt (exB_rt (ret_ok ?_))
  cases hT : isTup v with
  | false =>
    rw [hT] at i1
    have : stS ls v = false := by cases v <;> first | rfl | cases hT
    rw [this]
    exact ev_and' (evAll_f i1)
  | true =>
    rw [hT] at i1
    obtain ⟨xs, rfl⟩ : ∃ xs, v = .tup xs := by cases v <;> first | exact ⟨_, rfl⟩ | cases hT
    have gx : gds xs = true := by simpa [gd] using hv
    have i3 : ev P (callN P n) (.p1 .all (.lc false [2] (.nm 2) (.any (.v 1)) [] (.fn 47 [.v 0, .v 2]))) [.ref s, .tup xs, .unb] S = .ok (.bl (xs.all (stG ls))) S := by
      refine all_lc (stG ls) (len_line hw) fun x hx => ?_
      have gx' := gds_iff.mp gx x hx
      have wx : wei x + 1 ≤ weis xs := weis_mem hx
      have dx : dep x ≤ m := by
        simp only [dep] at hd
        have := deps_le (n := deps xs).mp (Nat.le_refl _) x hx
        omega
      exact ev_fn (evs_cons (ev_v rfl (by simp)) (evs_cons (ev_v rfl (gd_nu gx')) rfl)) ((run_stk H hk m).1 n x gx' (by simp only [wei] at hw; omega) dx (by omega))
    exact ev_and' ((evAll_t i1).trans ((evAll_c i3 fun _ => evAll_n).trans (by rw [Bool.and_true, stS])))
end Pe

set_option Elab.async false
set_option linter.all false
set_option maxRecDepth 100000
set_option maxHeartbeats 4000000
/-! Runs: guards, as the law tells them. -/
namespace Pe
open PySem L2
variable {P : Pg} {n l B : Nat} {S : Sto}
def plainc (c : Nat) : Bool := (decide (65 ≤ c) && decide (c ≤ 90)) || (decide (97 ≤ c) && decide (c ≤ 122)) || decide (c = 42)
mutual
/-- values of stacks, bent or not -/
def pk : Wv → Bool
  | .non => true
  | .bl _ => true
  | .int i => decide (0 ≤ i) && decide (i < 10)
  | .str x => decide (x.length ≤ 8) && x.cps.toList.all plainc
  | .tup xs => pks xs
  | .lst xs => pks xs
  | .unb => false
  | .ref _ => false
  | .cls _ => false
  | .scr _ => false
def pks : List Wv → Bool
  | [] => true
  | x :: xs => pk x && pks xs
end
theorem plainc_lt {c : Nat} (h : plainc c = true) : c < 123 := by
  unfold plainc at h
  simp only [Bool.or_eq_true, Bool.and_eq_true, decide_eq_true_eq] at h
  omega
mutual
theorem pk_gd : ∀ v : Wv, pk v = true → gd v = true
  | .non, _ => rfl
  | .bl _, _ => rfl
  | .int i, h => by
    simp only [pk, Bool.and_eq_true, decide_eq_true_eq] at h
    simp only [gd, decide_eq_true_eq]
    have : i.natAbs < 10 := by omega
    exact Nat.lt_of_lt_of_le this (by decide)
  | .str x, h => by
    simp only [pk, Bool.and_eq_true] at h
    show x.cps.all (· < 0x110000) = true
    rw [Array.all_eq_true_iff_forall_mem]
    intro c hc
    have := plainc_lt (List.all_eq_true.mp h.2 c (by simpa using hc))
    exact decide_eq_true (by omega)
  | .tup xs, h => by
    simp only [pk, gd] at h ⊢
    exact pks_gd xs h
  | .lst xs, h => by
    simp only [pk, gd] at h ⊢
    exact pks_gd xs h
  | .unb, h => by cases h
  | .ref _, h => by cases h
  | .cls _, h => by cases h
  | .scr _, h => by cases h
theorem pks_gd : ∀ vs : List Wv, pks vs = true → gds vs = true
  | [], _ => rfl
  | x :: xs, h => by
    simp only [pks, gds, Bool.and_eq_true] at h ⊢
    exact ⟨pk_gd x h.1, pks_gd xs h.2⟩
end
theorem pks_iff : ∀ {xs : List Wv}, pks xs = true ↔ ∀ x ∈ xs, pk x = true
  | [] => by simp [pks]
  | x :: xs => by simp [pks, pks_iff]
/-! ### the text of a value tells a word -/
theorem rc_plain : ∀ c, c < 123 → plainc c = true → Builtin.Str.reprChar 39 c = [c] := by decide +kernel
theorem fold_plain : ∀ (cs : List Nat) (acc : Array Nat), cs.all plainc = true → cs.foldl (fun out c => out ++ (Builtin.Str.reprChar 39 c).toArray) acc = acc ++ cs.toArray
  | [], acc, _ => by simp
  | c :: cs, acc, h => by
    rw [List.all_cons, Bool.and_eq_true] at h
    rw [List.foldl_cons, rc_plain c (plainc_lt h.1) h.1, fold_plain cs _ h.2]
    simp
theorem text_plain {x : Str} (h : x.cps.toList.all plainc = true) : reprText x = ⟨(#[39] ++ x.cps).push 39⟩ := by
  have hq : reprQuote x = 39 := by
    unfold reprQuote
    have : x.cps.contains 39 = false := by
      rw [Bool.eq_false_iff]
      intro z
      have hc := Array.mem_of_contains_eq_true z
      have := List.all_eq_true.mp h 39 (by simpa using hc)
      revert this
      decide
    rw [this]
    rfl
  unfold reprText
  rw [hq, ← Array.foldl_toList, fold_plain _ _ h]
theorem text_inj {x y : Str} (hx : x.cps.toList.all plainc = true) (hy : y.cps.toList.all plainc = true) : reprText x = reprText y ↔ x = y := by
  constructor
  · intro e
    rw [text_plain hx, text_plain hy] at e
    have e1 := congrArg (fun z : Str => z.cps.toList) e
    simp only [Array.toList_push, Array.toList_append] at e1
    have e2 := List.append_cancel_left (List.append_cancel_right e1)
    obtain ⟨a⟩ := x
    obtain ⟨b⟩ := y
    have : a = b := Array.toList_inj.mp e2
    rw [this]
  · intro e
    rw [e]
theorem head_app {a b : Str} {c : Nat} (h : a.cps.toList[0]? = some c) : (a ++ b).cps.toList[0]? = some c := by
  show (a.cps ++ b.cps).toList[0]? = _
  rw [Array.toList_append, List.getElem?_append_left (List.getElem?_eq_some_iff.mp h).1, h]
theorem text_head {x : Str} (h : x.cps.toList.all plainc = true) : (reprText x).cps.toList[0]? = some 39 := by
  rw [text_plain h]
  simp
/-- is it this text -/
def isX (y : Str) : Wv → Bool
  | .str x => decide (x = y)
  | _ => false
theorem shown_is {v : Wv} (h : pk v = true) {y : Str} (hy : y.cps.toList.all plainc = true) : decide (v.toD.shown = reprText y) = isX y v := by
  have hd := text_head hy
  have no : ∀ (c : Nat), v.toD.shown.cps.toList[0]? = some c → c ≠ 39 → decide (v.toD.shown = reprText y) = false := fun c h1 h2 => decide_eq_false fun e => by
    rw [e, hd] at h1
    exact h2 (Option.some.inj h1).symm
  cases v with
  | str x =>
    simp only [pk, Bool.and_eq_true] at h
    have e : (Wv.str x).toD.shown = reprText x := by
      simp only [Wv.toD, PyData.shown]
    rw [e]
    exact decide_eq_decide.mpr (text_inj h.2 hy)
  | non => exact no 78 (by decide +kernel) (by decide)
  | bl b =>
    cases b with
    | true => exact no 84 (by decide +kernel) (by decide)
    | false => exact no 70 (by decide +kernel) (by decide)
  | int i =>
    simp only [pk, Bool.and_eq_true, decide_eq_true_eq] at h
    have : i = 0 ∨ i = 1 ∨ i = 2 ∨ i = 3 ∨ i = 4 ∨ i = 5 ∨ i = 6 ∨ i = 7 ∨ i = 8 ∨ i = 9 := by omega
    rcases this with rfl | rfl | rfl | rfl | rfl | rfl | rfl | rfl | rfl | rfl
    · exact no 48 (by decide +kernel) (by decide)
    · exact no 49 (by decide +kernel) (by decide)
    · exact no 50 (by decide +kernel) (by decide)
    · exact no 51 (by decide +kernel) (by decide)
    · exact no 52 (by decide +kernel) (by decide)
    · exact no 53 (by decide +kernel) (by decide)
    · exact no 54 (by decide +kernel) (by decide)
    · exact no 55 (by decide +kernel) (by decide)
    · exact no 56 (by decide +kernel) (by decide)
    · exact no 57 (by decide +kernel) (by decide)
  | tup xs =>
    refine no 40 ?_ (by decide)
    simp only [Wv.toD]
    rw [PyData.shown_tuple]
    exact head_app (head_app (by decide +kernel))
  | lst xs =>
    refine no 91 ?_ (by decide)
    simp only [Wv.toD]
    rw [PyData.shown_list]
    exact head_app (head_app (by decide +kernel))
  | unb => cases h
  | ref _ => cases h
  | cls _ => cases h
  | scr _ => cases h
theorem pl_kw : KEEP.cps.toList.all plainc = true ∧ RAIS.cps.toList.all plainc = true ∧ PASS.cps.toList.all plainc = true ∧ DROP.cps.toList.all plainc = true ∧ BACK.cps.toList.all plainc = true := by decide +kernel
theorem rt_kw : reprText KEEP = ("'keep'" : Str) ∧ reprText RAIS = ("'raise'" : Str) ∧ reprText PASS = ("'pass'" : Str) ∧ reprText DROP = ("'drop'" : Str) ∧ reprText BACK = ("'back'" : Str) := by decide +kernel
theorem in_act {v : Wv} (h : pk v = true) : inW S (.str v.toD.shown) (.tup [.str "'keep'", .str "'raise'", .str "'pass'"]) = some (isX KEEP v || (isX RAIS v || isX PASS v)) := by
  obtain ⟨p1, p2, p3, _, _⟩ := pl_kw
  obtain ⟨r1, r2, r3, _, _⟩ := rt_kw
  show some ([Wv.str ("'keep'" : Str), .str ("'raise'" : Str), .str ("'pass'" : Str)].any fun y => eqF y (.str v.toD.shown)) = _
  rw [← r1, ← r2, ← r3, ← shown_is h p1, ← shown_is h p2, ← shown_is h p3]
  simp only [List.any_cons, List.any_nil, Bool.or_false, eqF]
  rw [beq_dec, beq_dec, beq_dec]
theorem in_word {v : Wv} (h : pk v = true) : inW S (.str v.toD.shown) (.tup [.str "'drop'", .str "'back'"]) = some (isX DROP v || isX BACK v) := by
  obtain ⟨_, _, _, p1, p2⟩ := pl_kw
  obtain ⟨_, _, _, r1, r2⟩ := rt_kw
  show some ([Wv.str ("'drop'" : Str), .str ("'back'" : Str)].any fun y => eqF y (.str v.toD.shown)) = _
  rw [← r1, ← r2, ← shown_is h p1, ← shown_is h p2]
  simp only [List.any_cons, List.any_nil, Bool.or_false, eqF]
  rw [beq_dec, beq_dec]
theorem in_01b {o : Option Nat} : inW S (oN o) (.tup [.int 0, .int 1]) = some (okF o) := by
  cases o with
  | none => rfl
  | some k =>
    show some ([Wv.int 0, .int 1].any fun y => eqF y (.int k)) = _
    simp only [List.any_cons, List.any_nil, Bool.or_false, eqF]
    show some (((0 : Int) == (k : Int)) || ((1 : Int) == (k : Int))) = some (decide (k ≤ 1))
    congr 1
    rw [Bool.eq_iff_iff]
    simp only [Bool.or_eq_true, beq_iff_eq, decide_eq_true_eq]
    omega
/-! ### loops that may answer early -/
theorem loopS_all {g : Tg} {G : Sto → Bool} {b : Ev → Sto → R Fl} {v0 : Wv} (f : Wv → Bool) (I : Ev → Prop) (hG : G S = true) : ∀ (xs : List Wv) (r : Ev), I r → (∀ x ∈ xs, ∀ r, I r → ∃ r1, bindG g x r = some r1 ∧ ((f x = true ∧ ∃ r2, b r1 S = .ok (.nx r2) S ∧ I r2) ∨ (f x = false ∧ b r1 S = .ok (.rt v0) S))) →
    (xs.all f = true ∧ ∃ r', loopS g G b xs r S = .ok (.nx r') S ∧ I r') ∨ (xs.all f = false ∧ loopS g G b xs r S = .ok (.rt v0) S)
  | [], r, h0, _ => .inl ⟨rfl, r, by unfold loopS; rw [if_pos hG], h0⟩
  | x :: xs, r, h0, st => by
    obtain ⟨r1, e1, h⟩ := st x List.mem_cons_self r h0
    have un : loopS g G b (x :: xs) r S = (b r1 S).bind fun fl S1 => match fl with
        | .nx r1 => loopS g G b xs r1 S1
        | .ct r1 => loopS g G b xs r1 S1
        | .bk r1 => .ok (.nx r1) S1
        | .rt v => .ok (.rt v) S1 := by
      rw [loopS, if_pos hG, e1] <;> rfl
    rcases h with ⟨hf, r2, e2, h2⟩ | ⟨hf, e2⟩
    · rcases loopS_all f I hG xs r2 h2 (fun y hy => st y (List.mem_cons_of_mem _ hy)) with ⟨a1, r', a2, a3⟩ | ⟨a1, a2⟩
      · refine .inl ⟨by rw [List.all_cons, hf, a1]; rfl, r', ?_, a3⟩
        rw [un, e2, R.bind_ok]
        exact a2
      · refine .inr ⟨by rw [List.all_cons, hf, a1]; rfl, ?_⟩
        rw [un, e2, R.bind_ok]
        exact a2
    · refine .inr ⟨by rw [List.all_cons, hf]; rfl, ?_⟩
      rw [un, e2, R.bind_ok]
theorem for_all {F : Fo} {g : Tg} {it : Ic} {b : List Pe.S} {r : Ev} {i : Its} {v0 : Wv} (f : Wv → Bool) (hi : evI P F it r S = .ok i S) (I : Ev → Prop) (h0 : I r) (hG : i.ok S = true)
    (st : ∀ x ∈ i.xs, ∀ r, I r → ∃ r1, bindG g x r = some r1 ∧ ((f x = true ∧ ∃ r2, exB P F b r1 S = .ok (.nx r2) S ∧ I r2) ∨ (f x = false ∧ exB P F b r1 S = .ok (.rt v0) S))) :
    (i.xs.all f = true ∧ ∃ r', exS P F (.for_ g it b) r S = .ok (.nx r') S ∧ I r') ∨ (i.xs.all f = false ∧ exS P F (.for_ g it b) r S = .ok (.rt v0) S) := by
  have e : exS P F (.for_ g it b) r S = loopS g i.ok (fun r' S2 => exB P F b r' S2) i.xs r S := by rw [exS, hi, R.bind_ok]
  rw [e]
  exact loopS_all (b := fun r' S2 => exB P F b r' S2) f I hG i.xs r h0 st
/-! ### the law's own -/
def fd_law_is_layer : Fd := ⟨2, 4, false, [.ite (.not (.isi (.v 1) [.tuple])) [.ret (.k (.bl false))] [], .for_ (.nm 2) (.any (.v 1)) [.ite (.or [.not (.isi (.v 2) [.tuple]), .cmp .ne (.p1 .len (.v 2)) (.k (.int 2)), .not (.fn 50 [.v 0, .idx (.v 2) (.k (.int 0))])]) [.ret (.k (.bl false))] [], .asg (.nm 3) (.idx (.v 2) (.k (.int 1))), .ite (.isi (.v 3) [.tuple]) [.ite (.or [.cmp .ne (.p1 .len (.v 3)) (.k (.int 2)), .cmp .notin (.p1 .repr (.idx (.v 3) (.k (.int 0)))) (.tup [.k (.str "'keep'"), .k (.str "'raise'"), .k (.str "'pass'")])]) [.ret (.k (.bl false))] [], .ite (.and [.cmp .eq (.idx (.v 3) (.k (.int 0))) (.k (.str "keep")), .not (.fn 50 [.v 0, .idx (.v 3) (.k (.int 1))])]) [.ret (.k (.bl false))] [], .ite (.and [.cmp .eq (.idx (.v 3) (.k (.int 0))) (.k (.str "raise")), .cmp .notin (.fn 43 [.v 0, .idx (.v 3) (.k (.int 1))]) (.tup [.k (.int 0), .k (.int 1)])]) [.ret (.k (.bl false))] [], .ite (.and [.cmp .eq (.idx (.v 3) (.k (.int 0))) (.k (.str "pass")), .not (.fn 51 [.v 0, .idx (.v 3) (.k (.int 1))])]) [.ret (.k (.bl false))] []] [.ite (.cmp .notin (.p1 .repr (.v 3)) (.tup [.k (.str "'drop'"), .k (.str "'back'")])) [.ret (.k (.bl false))] []]], .ret (.k (.bl true))]⟩
def fd_law_are_labels : Fd := ⟨2, 3, false, [.ite (.or [.not (.isi (.v 1) [.tuple]), .cmp .eq (.v 1) (.tup [])]) [.ret (.k (.bl false))] [], .ret (.p1 .all (.lc false [2] (.nm 2) (.any (.v 1)) [] (.and [.isi (.v 2) [.str], .cmp .isin (.v 2) (.v 0)])))]⟩
structure HasL (P : Pg) : Prop where
  f : HasF P
  f50 : P.fn 50 = some fd_law_are_labels
  f51 : P.fn 51 = some fd_law_is_layer
theorem run_lawlabels (H : HasL P) {ls : List Str} {v : Wv} (hv : gd v = true) (hw : wei v ≤ 200000) : callN P (n + 1) 50 [.lst (stl ls), v] S = .ok (.bl (stK ls v)) S := by
  rw [call_eq H.f50 rfl rfl (by decide)]
  have nu := gd_nu hv
  have i1 : ev P (callN P n) (.isi (.v 1) [.tuple]) [.lst (stl ls), v, .unb] S = .ok (.bl (isTup v)) S := by
    rw [ev, ev_v rfl nu, R.bind_ok, isi_tup hv]
    rfl
  have no : exB P (callN P n) [.ret (.k (.bl false))] [.lst (stl ls), v, .unb] S = .ok (.rt (.bl false)) S := exB_rt (ret_ok (by rw [ev]))
  show (exB P (callN P n) [_, _] [.lst (stl ls), v, .unb] S).bind _ = _
  refine done_rt ?_
  cases hT : isTup v with
  | false =>
    rw [hT] at i1
    have : stK ls v = false := by cases v <;> first | rfl | cases hT
    rw [this]
    exact exB_rt ((if_t (ev_or' (evAny_t (ev_not' i1)))).trans no)
  | true =>
    rw [hT] at i1
    obtain ⟨xs, rfl⟩ : ∃ xs, v = .tup xs := by cases v <;> first | exact ⟨_, rfl⟩ | cases hT
    have gx : gds xs = true := by simpa [gd] using hv
    have i2 : ev P (callN P n) (.cmp .eq (.v 1) (.tup [])) [.lst (stl ls), .tup xs, .unb] S = .ok (.bl xs.isEmpty) S := by
      rw [ev, ev_v rfl (by simp), R.bind_ok, ev, evs, R.bind_ok, if_pos (show ([] : List Wv).length ≤ line from Nat.zero_le _), R.bind_ok, eq_nil gx]
      rfl
    rw [show stK ls (.tup xs) = (!xs.isEmpty && xs.all (inL ls)) from rfl]
    cases hE : xs.isEmpty with
    | true =>
      rw [hE] at i2
      exact exB_rt ((if_t (ev_or' ((evAny_f (ev_not' i1)).trans (evAny_t i2)))).trans no)
    | false =>
      rw [hE] at i2
      rw [exB_go ((if_f (ev_or' ((evAny_f (ev_not' i1)).trans ((evAny_f i2).trans rfl)))).trans exB_nil)]
      refine exB_rt (ret_ok ?_)
      refine all_lc (inL ls) (len_line hw) fun x hx => ?_
      have gx' := gds_iff.mp gx x hx
      have j1 : ev P (callN P n) (.isi (.v 2) [.str]) [.lst (stl ls), .tup xs, x] S = .ok (.bl (isS x)) S := by
        rw [ev, ev_v rfl (gd_nu gx'), R.bind_ok, isi_s gx']
        rfl
      cases hs : isS x with
      | false =>
        rw [hs] at j1
        rw [inL_no hs]
        exact ev_and' (evAll_f j1)
      | true =>
        rw [hs] at j1
        obtain ⟨y, rfl⟩ : ∃ y, x = .str y := by cases x <;> first | exact ⟨_, rfl⟩ | cases hs
        have j2 : ev P (callN P n) (.cmp .isin (.v 2) (.v 0)) [.lst (stl ls), .tup xs, .str y] S = .ok (.bl (inL ls (.str y))) S := by
          rw [ev, ev_v rfl (by simp), R.bind_ok, ev_v rfl (by simp), R.bind_ok]
          show R.of ((inW S (.str y) (.lst (stl ls))).map Wv.bl) S = _
          rw [in_lst]
          rfl
        exact ev_and' ((evAll_t j1).trans ((evAll_c j2 fun _ => evAll_n).trans (by rw [Bool.and_true])))
end Pe

set_option Elab.async false
set_option linter.all false
set_option maxRecDepth 100000
/-! Rules that step through core texts: what holds behind a step. -/
namespace Pe
open PySem L2
abbrev Xq := Nat → List (Nat × Wv) → Sto → Prop
def NX : Xq := fun _ _ _ => False
variable {P : Pg} {F : Fo} {r : Ev} {S S' : Sto} {X : Xq} {Q : Wv → Sto → Prop}
theorem w_eq {a : Type} {m : R a} {v : a} {Q : a → Sto → Prop} (h : m = .ok v S') (q : Q v S') : m.post Q X := by rw [h]; exact q
theorem w_ex {a : Type} {m : R a} {Q : a → Sto → Prop} (h : m.post Q NX) : ∃ v S', m = .ok v S' ∧ Q v S' := by
  cases m with
  | ok v S => exact ⟨v, S, rfl, h⟩
  | exc c v S => exact h.elim
  | bad => exact h.elim
theorem w_is {a : Type} {m : R a} {v : a} (h : m.post (fun w T => w = v ∧ T = S') NX) : m = .ok v S' := by
  obtain ⟨w, T, e, rfl, rfl⟩ := w_ex h
  exact e
theorem w_bind {a b : Type} {m : R a} {f : a → Sto → R b} {Q : b → Sto → Prop} (h : m.post (fun v S => (f v S).post Q X) X) : (m.bind f).post Q X := by
  cases m with
  | ok v S => exact h
  | exc c v S => exact h
  | bad => exact h
theorem w_mono {a : Type} {m : R a} {Q Q' : a → Sto → Prop} (h : m.post Q X) (q : ∀ v S, Q v S → Q' v S) : m.post Q' X := R.post_mono h q fun _ _ _ z => z
theorem w_of {a : Type} {o : Option a} {v : a} {Q : a → Sto → Prop} (h : o = some v) (q : Q v S) : (R.of o S).post Q X := by rw [h]; exact q
theorem w_v {i : Nat} {w : Wv} (h : r[i]? = some w) (n : w ≠ .unb) (q : Q w S) : (ev P F (.v i) r S).post Q X := by rw [ev_v h n]; exact q
theorem w_vx {i : Nat} (h : ∃ w, r[i]? = some w ∧ w ≠ .unb ∧ Q w S) : (ev P F (.v i) r S).post Q X := by
  obtain ⟨w, h, n, q⟩ := h
  exact w_v h n q
theorem w_k {w : Wv} (q : Q w S) : (ev P F (.k w) r S).post Q X := by rw [ev]; exact q
theorem w_bin {o : BOp} {a b : C} (h : (ev P F a r S).post (fun x S1 => (ev P F b r S1).post (fun y S2 => (R.of (binW o S2 x y) S2).post Q X) X) X) : (ev P F (.bin o a b) r S).post Q X := by
  rw [ev]; exact w_bind (w_mono h fun _ _ h => w_bind h)
theorem w_cmp {o : COp} {a b : C} (h : (ev P F a r S).post (fun x S1 => (ev P F b r S1).post (fun y S2 => (R.of (cmpW o S2 x y) S2).post (fun b S3 => Q (.bl b) S3) X) X) X) : (ev P F (.cmp o a b) r S).post Q X := by
  rw [ev]; exact w_bind (w_mono h fun _ _ h => w_bind (w_mono h fun x S2 h => by
    revert h
    cases cmpW o S2 _ x with
    | none => exact fun h => h
    | some b => exact fun h => h))
/-- a truth value -/
def onB (Q : Bool → Sto → Prop) : Wv → Sto → Prop
  | .bl b, S => Q b S
  | _, _ => False
theorem w_onB {Q : Bool → Sto → Prop} {b : Bool} (q : Q b S) : onB Q (.bl b) S := q
theorem w_tst {e : C} {Q : Bool → Sto → Prop} (h : (ev P F e r S).post (onB Q) X) : ((ev P F e r S).bind asBool).post Q X := w_bind (w_mono h fun w S h => by
  cases w <;> first | exact h | exact h.elim)
theorem w_not {a : C} (h : (ev P F a r S).post (onB fun b S1 => Q (.bl (!b)) S1) X) : (ev P F (.not a) r S).post Q X := by
  rw [ev]; exact w_bind (w_tst h)
theorem w_and_ {es : List C} (h : (evAll P F es r S).post (fun b S1 => Q (.bl b) S1) X) : (ev P F (.and es) r S).post Q X := by
  rw [ev]; exact w_bind h
theorem w_or_ {es : List C} (h : (evAny P F es r S).post (fun b S1 => Q (.bl b) S1) X) : (ev P F (.or es) r S).post Q X := by
  rw [ev]; exact w_bind h
theorem w_all0 {Q : Bool → Sto → Prop} (q : Q true S) : (evAll P F [] r S).post Q X := q
theorem w_any0 {Q : Bool → Sto → Prop} (q : Q false S) : (evAny P F [] r S).post Q X := q
theorem w_all {e : C} {es : List C} {Q : Bool → Sto → Prop} (h : (ev P F e r S).post (onB fun b S1 => (b = true → (evAll P F es r S1).post Q X) ∧ (b = false → Q false S1)) X) : (evAll P F (e :: es) r S).post Q X := by
  rw [evAll]; exact w_bind (w_tst (w_mono h fun w S h => by
    cases w <;> first | exact h.elim | skip
    rename_i b
    cases b with
    | true => exact h.1 rfl
    | false => exact h.2 rfl))
theorem w_any {e : C} {es : List C} {Q : Bool → Sto → Prop} (h : (ev P F e r S).post (onB fun b S1 => (b = true → Q true S1) ∧ (b = false → (evAny P F es r S1).post Q X)) X) : (evAny P F (e :: es) r S).post Q X := by
  rw [evAny]; exact w_bind (w_tst (w_mono h fun w S h => by
    cases w <;> first | exact h.elim | skip
    rename_i b
    cases b with
    | true => exact h.1 rfl
    | false => exact h.2 rfl))
/-- one of several that is pure -/
theorem w_all1 {e : C} {es : List C} {Q : Bool → Sto → Prop} {b : Bool} (h : ev P F e r S = .ok (.bl b) S) (h2 : b = true → (evAll P F es r S).post (fun c S1 => Q (b && c) S1) X) (h3 : b = false → Q false S) : (evAll P F (e :: es) r S).post Q X := by
  refine w_all (w_eq h ⟨fun k => ?_, h3⟩)
  have := h2 k
  rw [k] at this
  exact this
theorem w_cmp2 {o p : COp} {a b c : C} (h : (ev P F a r S).post (fun x S1 => (ev P F b r S1).post (fun y S2 => (R.of (cmpW o S2 x y) S2).post (fun k S3 => (k = false → Q (.bl false) S3) ∧ (k = true → (ev P F c r S3).post (fun z S4 => (R.of (cmpW p S4 y z) S4).post (fun b S5 => Q (.bl b) S5) X) X)) X) X) X) : (ev P F (.cmp2 o p a b c) r S).post Q X := by
  rw [ev]; exact w_bind (w_mono h fun _ _ h => w_bind (w_mono h fun x S2 h => by
    revert h
    cases cmpW o S2 _ x with
    | none => exact fun h => h
    | some b =>
      cases b with
      | false => exact fun h => h.1 rfl
      | true => exact fun h => w_bind (w_mono (h.2 rfl) fun z S4 h => by
          revert h
          cases cmpW p S4 x z with
          | none => exact fun h => h
          | some b => exact fun h => h)))
theorem w_neg {a : C} {i : Int} (h : ev P F a r S = .ok (.int i) S) (q : Q (.int (-i)) S) : (ev P F (.neg a) r S).post Q X := by
  rw [ev, h]; exact q
theorem w_ite {t a b : C} (h : (ev P F t r S).post (onB fun k S1 => (k = true → (ev P F a r S1).post Q X) ∧ (k = false → (ev P F b r S1).post Q X)) X) : (ev P F (.ite t a b) r S).post Q X := by
  rw [ev]; exact w_bind (w_tst (w_mono h fun w S h => by
    cases w <;> first | exact h.elim | skip
    rename_i b
    cases b with
    | true => exact h.1 rfl
    | false => exact h.2 rfl))
theorem w_nil {Q : List Wv → Sto → Prop} (q : Q [] S) : (evs P F [] r S).post Q X := q
theorem w_cons {e : C} {es : List C} {Q : List Wv → Sto → Prop} (h : (ev P F e r S).post (fun x S1 => (evs P F es r S1).post (fun xs S2 => Q (x :: xs) S2) X) X) : (evs P F (e :: es) r S).post Q X := by
  rw [evs]; exact w_bind (w_mono h fun _ _ h => w_bind h)
theorem w_tup {es : List C} (h : (evs P F es r S).post (fun xs S1 => xs.length ≤ line ∧ Q (.tup xs) S1) X) : (ev P F (.tup es) r S).post Q X := by
  rw [ev]; exact w_bind (w_mono h fun _ _ h => by rw [if_pos h.1]; exact h.2)
theorem w_newf {xs : List Wv} (l : xs.length ≤ line) (q : Q (.lst xs) S) : (newL false xs S).post Q X := by rw [newL_f l]; exact q
theorem w_newt {xs : List Wv} (l : xs.length ≤ line) (q : Q (.ref S.length) (S ++ [.lst xs])) : (newL true xs S).post Q X := by rw [newL_t l]; exact q
theorem w_dspf {es : List C} (h : (evs P F es r S).post (fun xs S1 => xs.length ≤ line ∧ Q (.lst xs) S1) X) : (ev P F (.dsp false es) r S).post Q X := by
  rw [ev]; exact w_bind (w_mono h fun _ _ h => w_newf h.1 h.2)
theorem w_dspt {es : List C} (h : (evs P F es r S).post (fun xs S1 => xs.length ≤ line ∧ Q (.ref S1.length) (S1 ++ [.lst xs])) X) : (ev P F (.dsp true es) r S).post Q X := by
  rw [ev]; exact w_bind (w_mono h fun _ _ h => w_newt h.1 h.2)
theorem w_lst {bx : Bool} {a : C} (h : (ev P F a r S).post (fun x S1 => (R.of (itemsOf S1 x) S1).post (fun xs S2 => (newL bx xs S2).post Q X) X) X) : (ev P F (.lst bx a) r S).post Q X := by
  rw [ev]; exact w_bind (w_mono h fun _ _ h => w_bind h)
theorem w_srt {bx : Bool} {a : C} (h : (ev P F a r S).post (fun x S1 => (R.of ((itemsOf S1 x).bind sortW) S1).post (fun xs S2 => (newL bx xs S2).post Q X) X) X) : (ev P F (.srt bx a) r S).post Q X := by
  rw [ev]; exact w_bind (w_mono h fun _ _ h => w_bind h)
theorem w_idx {a i : C} (h : (ev P F a r S).post (fun x S1 => (ev P F i r S1).post (fun y S2 => (R.of (idxW S2 x y) S2).post Q X) X) X) : (ev P F (.idx a i) r S).post Q X := by
  rw [ev]; exact w_bind (w_mono h fun _ _ h => w_bind h)
theorem w_slc {a : C} {lo hi : Option C} (h : (ev P F a r S).post (fun x S1 => (evO P F lo r S1).post (fun l S2 => (evO P F hi r S2).post (fun k S3 => (R.of (slcW S3 x l k) S3).post Q X) X) X) X) : (ev P F (.slc a lo hi) r S).post Q X := by
  rw [ev]; exact w_bind (w_mono h fun _ _ h => w_bind (w_mono h fun _ _ h => w_bind h))
theorem w_on {Q : Option Int → Sto → Prop} (q : Q none S) : (evO P F none r S).post Q X := q
theorem w_os {c : C} {Q : Option Int → Sto → Prop} (h : (ev P F c r S).post (fun w S1 => (R.of (partOf w) S1).post Q X) X) : (evO P F (some c) r S).post Q X := by
  rw [evO]; exact w_bind h
theorem w_p1 {p : P1} {a : C} (h : (ev P F a r S).post (fun x S1 => (R.of (pr1 p S1 x) S1).post Q X) X) : (ev P F (.p1 p a) r S).post Q X := by
  rw [ev]; exact w_bind h
theorem w_p2 {p : P2} {a b : C} (h : (ev P F a r S).post (fun x S1 => (ev P F b r S1).post (fun y S2 => (R.of (pr2 p S2 x y) S2).post Q X) X) X) : (ev P F (.p2 p a b) r S).post Q X := by
  rw [ev]; exact w_bind (w_mono h fun _ _ h => w_bind h)
theorem w_isi {a : C} {ts : List Ty} (h : (ev P F a r S).post (fun x S1 => (R.of (isAny S1 x ts) S1).post (fun b S3 => Q (.bl b) S3) X) X) : (ev P F (.isi a ts) r S).post Q X := by
  rw [ev]; exact w_bind (w_mono h fun x S2 h => by
    revert h
    cases isAny S2 x ts with
    | none => exact fun h => h
    | some b => exact fun h => h)
theorem w_mut {m : Mu} {o : C} {as : List C} (h : (ev P F o r S).post (fun x S1 => isBx S1 x = true ∧ (evs P F as r S1).post (fun y S2 => (mut1 m S2 x y).post Q X) X) X) : (ev P F (.mut m o as) r S).post Q X := by
  rw [ev]; exact w_bind (w_mono h fun _ _ h => by rw [if_pos h.1]; exact w_bind h.2)
theorem w_frz {a : C} (h : (ev P F a r S).post (fun x S1 => (frzW S1 x).post Q X) X) : (ev P F (.frz a) r S).post Q X := by
  rw [ev]; exact w_bind h
theorem w_att {o : C} {f : Nat} (h : (ev P F o r S).post (fun x S1 => (R.of (attW P S1 x f) S1).post Q X) X) : (ev P F (.att o f) r S).post Q X := by
  rw [ev]; exact w_bind h
theorem w_fn {f : Nat} {es : List C} (h : (evs P F es r S).post (fun xs S1 => (F f xs S1).post Q X) X) : (ev P F (.fn f es) r S).post Q X := by
  rw [ev]; exact w_bind h
theorem w_fnk {f : Nat} {ks : List C} {perm : List Nat} (h : (evs P F ks r S).post (fun ys S2 => ∃ zs, (perm.mapM fun j => ys[j]?) = some zs ∧ (F f zs S2).post Q X) X) : (ev P F (.fnk f [] ks perm) r S).post Q X := by
  rw [ev]; exact w_bind (show (R.ok ([] : List Wv) S).post _ X from w_bind (w_mono h fun ys S2 ⟨zs, h1, h2⟩ => by
    rw [List.nil_append, h1]
    exact h2))
theorem w_mth {m : Nat} {o : C} {es : List C} (h : (ev P F o r S).post (fun x S1 => ∃ f, methOf P S1 x m = some f ∧ (evs P F es r S1).post (fun xs S2 => (F f (x :: xs) S2).post Q X) X) X) : (ev P F (.mth m o es) r S).post Q X := by
  rw [ev]; exact w_bind (w_mono h fun x S1 ⟨f, h1, h2⟩ => by
    rw [h1]
    exact w_bind h2)
theorem w_stp {a : C} {es : List C} (h : (ev P F a r S).post (fun x S1 => ∃ xs, x = .tup xs ∧ (evs P F es r S1).post (fun ys S2 => (xs ++ ys).length ≤ line ∧ Q (.tup (xs ++ ys)) S2) X) X) : (ev P F (.stp a es) r S).post Q X := by
  rw [ev]; exact w_bind (w_mono h fun x S1 ⟨xs, h1, h2⟩ => by
    subst h1
    exact w_bind (w_mono h2 fun _ _ h => by rw [if_pos h.1]; exact h.2))
theorem w_tt {A B : Prop} {k : Bool} (h : k = true) (a : A) : (k = true → A) ∧ (k = false → B) := by subst h; exact ⟨fun _ => a, nofun⟩
theorem w_ff {A B : Prop} {k : Bool} (h : k = false) (b : B) : (k = true → A) ∧ (k = false → B) := by subst h; exact ⟨nofun, fun _ => b⟩
theorem w_ff2 {A B : Prop} {k : Bool} (h : k = false) (b : B) : (k = false → B) ∧ (k = true → A) := by subst h; exact ⟨fun _ => b, nofun⟩
theorem w_tt2 {A B : Prop} {k : Bool} (h : k = true) (a : A) : (k = false → B) ∧ (k = true → A) := by subst h; exact ⟨nofun, fun _ => a⟩
theorem w_len {xs : List Wv} {A : Prop} (h : xs.length ≤ line) (a : A) : xs.length ≤ line ∧ A := ⟨h, a⟩
theorem lst_tup {xs : List Wv} : itemsOf S (.tup xs) = some xs := rfl
theorem slT_lo1 {xs : List Wv} {j : Nat} : slcW S (.tup xs) none (some ((j : Int) + 1)) = some (.tup (xs.take (j + 1))) := slT_lo (j := j + 1)
theorem slT_hi1 {xs : List Wv} {j : Nat} : slcW S (.tup xs) (some ((j : Int) + 1)) none = some (.tup (xs.drop (j + 1))) := slT_hi (j := j + 1)
theorem len_tup {xs : List Wv} : pr1 .len S (.tup xs) = some (.int xs.length) := rfl
/-! ### what a loop goes through -/
theorem w_rng {e : C} {Q : Its → Sto → Prop} (h : (ev P F e r S).post (fun w S1 => ∃ n : Nat, w = .int (n : Int) ∧ n ≤ 1000 ∧ Q (rngI n) S1) X) : (evI P F (.rng [e]) r S).post Q X := by
  generalize hm : ev P F e r S = m at h
  cases m with
  | bad => exact h.elim
  | exc c v T => rw [evI, evs, hm]; exact h
  | ok w S1 =>
    obtain ⟨n, h1, h2, h3⟩ := h
    subst h1
    rw [evI_rng hm rfl h2]
    exact h3
theorem w_enm {a : C} {Q : Its → Sto → Prop} (h : (ev P F a r S).post (fun x S1 => (R.of (walkL S1 x) S1).post (fun i S2 => Q ⟨enumW 0 i.xs, i.gd⟩ S2) X) X) : (evI P F (.enm a) r S).post Q X := by
  rw [evI]; exact w_bind (w_mono h fun x S1 h => by
    revert h
    cases walkL S1 x with
    | none => exact fun h => h
    | some i => exact fun h => h)
theorem w_iter {e : C} {Q : Its → Sto → Prop} (h : (ev P F e r S).post (fun x S1 => (R.of (walkOf S1 x) S1).post Q X) X) : (evI P F (.any e) r S).post Q X := by
  rw [evI]; exact w_bind h
/-! ### comprehensions -/
theorem w_lc {bx : Bool} {own : List Nat} {g : Tg} {it : Ic} {cond : List C} {e : C} (J : Sto → Nat → List Wv → Sto → Prop)
    (hi : (evI P F it r S).post (fun i S1 => i.xs.length ≤ line ∧ J S1 0 [] S1 ∧ (∀ k ys S2, k ≤ i.xs.length → J S1 k ys S2 → i.ok S2 = true) ∧
      (∀ k x ys S2, i.xs[k]? = some x → J S1 k ys S2 → ∃ r1, bindG g x (wipeE r own) = some r1 ∧ (evAll P F cond r1 S2).post (fun c S3 => (c = true → (ev P F e r1 S3).post (fun y S4 => J S1 (k + 1) (ys ++ [y]) S4) NX) ∧ (c = false → J S1 (k + 1) ys S3)) NX) ∧
      (∀ ys S2, J S1 i.xs.length ys S2 → (newL bx ys S2).post Q X)) X) : (ev P F (.lc bx own g it cond e) r S).post Q X := by
  rw [ev]
  refine w_bind (w_mono hi fun i S1 ⟨h1, h2, h3, h4, h5⟩ => ?_)
  rw [if_pos h1]
  obtain ⟨ys, S2, e1, e2⟩ := loopC_inv (g := g) (r := wipeE r own) (G := i.ok) (c := fun r' S2 => evAll P F cond r' S2) (e := fun r' S2 => ev P F e r' S2) (J S1) i.xs h3 (fun k x ys S2 hx hJ => by
    obtain ⟨r1, g1, g2⟩ := h4 k x ys S2 hx hJ
    obtain ⟨c, S3, e3, g3, g4⟩ := w_ex g2
    refine ⟨r1, S3, g1, ?_⟩
    cases c with
    | false => exact .inl ⟨e3, g4 rfl⟩
    | true =>
      obtain ⟨y, S4, e4, g5⟩ := w_ex (g3 rfl)
      exact .inr ⟨e3, y, S4, e4, g5⟩) h2
  rw [e1]
  exact w_bind (h5 ys S2 e2)
/-- nothing is drawn or changed: a filter and a map -/
theorem w_lcp {bx : Bool} {own : List Nat} {g : Tg} {it : Ic} {cond : List C} {e : C} (p : Wv → Bool) (f : Wv → Wv)
    (hi : (evI P F it r S).post (fun i S1 => i.xs.length ≤ line ∧ i.ok S1 = true ∧
      (∀ x ∈ i.xs, ∃ r1, bindG g x (wipeE r own) = some r1 ∧ evAll P F cond r1 S1 = .ok (p x) S1 ∧ (p x = true → ev P F e r1 S1 = .ok (f x) S1)) ∧
      (newL bx ((i.xs.filter p).map f) S1).post Q X) X) : (ev P F (.lc bx own g it cond e) r S).post Q X := by
  refine w_lc (fun S1 k ys S2 => S2 = S1 ∧ ∃ xs : List Wv, (evI P F it r S).post (fun i T => T = S1 → i.xs = xs) NX ∧ ys = ((xs.take k).filter p).map f) ?_
  generalize hm : evI P F it r S = m at hi
  cases m with
  | bad => exact hi
  | exc c v S1 => exact hi
  | ok i S1 =>
    obtain ⟨h1, h2, h3, h4⟩ := hi
    refine ⟨h1, ⟨rfl, i.xs, fun _ => rfl, rfl⟩, fun k ys S2 _ hJ => by rw [hJ.1]; exact h2, fun k x ys S2 hx hJ => ?_, fun ys S2 hJ => ?_⟩
    · obtain ⟨rfl, xs, e1, rfl⟩ := hJ
      have e1 : i.xs = xs := e1 rfl
      subst e1
      obtain ⟨r1, g1, g2, g3⟩ := h3 x (List.mem_of_getElem? hx)
      have tk : i.xs.take (k + 1) = i.xs.take k ++ [x] := by rw [List.take_add_one, hx]; rfl
      refine ⟨r1, g1, w_eq g2 ⟨fun c => w_eq (g3 c) ⟨rfl, i.xs, fun _ => rfl, ?_⟩, fun c => ⟨rfl, i.xs, fun _ => rfl, ?_⟩⟩⟩
      · rw [tk, List.filter_append, List.map_append, List.filter_cons_of_pos c]; rfl
      · rw [tk, List.filter_append, List.filter_cons_of_neg (by rw [c]; exact Bool.false_ne_true), List.filter_nil, List.append_nil]
    · obtain ⟨rfl, xs, e1, rfl⟩ := hJ
      have e1 : i.xs = xs := e1 rfl
      subst e1
      rw [List.take_length]
      exact h4
/-! ### statements -/
variable {QF : Fl → Sto → Prop} {ss : List Pe.S}
/-- what comes behind a statement -/
def goOn (P : Pg) (F : Fo) (X : Xq) (ss : List Pe.S) (QF : Fl → Sto → Prop) : Fl → Sto → Prop
  | .nx r, S => (exB P F ss r S).post QF X
  | .rt v, S => QF (.rt v) S
  | .bk r, S => QF (.bk r) S
  | .ct r, S => QF (.ct r) S
theorem w_st {s : Pe.S} (h : (exS P F s r S).post (goOn P F X ss QF) X) : (exB P F (s :: ss) r S).post QF X := by
  rw [exB]; exact w_bind (w_mono h fun f S h => by cases f <;> exact h)
theorem w_end (q : QF (.nx r) S) : (exB P F [] r S).post QF X := q
theorem w_goNx {r' : Ev} (h : (exB P F ss r' S).post QF X) : goOn P F X ss QF (.nx r') S := h
theorem w_goRt {v : Wv} (h : QF (.rt v) S) : goOn P F X ss QF (.rt v) S := h
theorem w_goBk {r' : Ev} (h : QF (.bk r') S) : goOn P F X ss QF (.bk r') S := h
theorem w_goCt {r' : Ev} (h : QF (.ct r') S) : goOn P F X ss QF (.ct r') S := h
theorem w_asg {g : Tg} {e : C} (h : (ev P F e r S).post (fun x S1 => ∃ r', bindG g x r = some r' ∧ (exB P F ss r' S1).post QF X) X) : (exB P F (.asg g e :: ss) r S).post QF X := by
  refine w_st ?_
  rw [exS]; exact w_bind (w_mono h fun x S1 ⟨r', h1, h2⟩ => by rw [h1]; exact h2)
theorem w_asg1 {i : Nat} {e : C} (hi : i < r.length) (h : (ev P F e r S).post (fun x S1 => (exB P F ss (r.set i x) S1).post QF X) X) : (exB P F (.asg (.nm i) e :: ss) r S).post QF X :=
  w_asg (w_mono h fun x S1 h => ⟨r.set i x, by rw [q_nm, if_pos hi], h⟩)
theorem w_par {i j : Nat} {a b : C} (hl : i < r.length ∧ j < r.length) (h : (ev P F a r S).post (fun x S1 => (ev P F b r S1).post (fun y S2 => (exB P F ss ((r.set i x).set j y) S2).post QF X) X) X) : (exB P F (.par i j a b :: ss) r S).post QF X := by
  refine w_st ?_
  rw [exS]; exact w_bind (w_mono h fun x S1 h => w_bind (w_mono h fun y S2 h => by rw [if_pos hl]; exact h))
theorem w_seti {o i e : C} (h : (ev P F e r S).post (fun v S1 => (ev P F o r S1).post (fun x S2 => (ev P F i r S2).post (fun y S3 => ∃ S4, setI S3 x y v = some S4 ∧ (exB P F ss r S4).post QF X) X) X) X) : (exB P F (.seti o i e :: ss) r S).post QF X := by
  refine w_st ?_
  rw [exS]; exact w_bind (w_mono h fun x S1 h => w_bind (w_mono h fun y S2 h => w_bind (w_mono h fun z S3 ⟨S4, h1, h2⟩ => by rw [h1]; exact h2)))
theorem w_seta {o e : C} {f : Nat} (h : (ev P F e r S).post (fun v S1 => (ev P F o r S1).post (fun x S2 => ∃ S3, setA P S2 x f v = some S3 ∧ (exB P F ss r S3).post QF X) X) X) : (exB P F (.seta o f e :: ss) r S).post QF X := by
  refine w_st ?_
  rw [exS]; exact w_bind (w_mono h fun x S1 h => w_bind (w_mono h fun y S2 ⟨S4, h1, h2⟩ => by rw [h1]; exact h2))
theorem w_exp {e : C} (h : (ev P F e r S).post (fun _ S1 => (exB P F ss r S1).post QF X) X) : (exB P F (.ex e :: ss) r S).post QF X := by
  refine w_st ?_
  rw [exS]; exact w_bind (w_mono h fun _ _ h => h)
theorem w_ret {e : C} (h : (ev P F e r S).post (fun v S1 => QF (.rt v) S1) X) : (exB P F (.ret e :: ss) r S).post QF X := by
  refine w_st ?_
  rw [exS]; exact w_bind (w_mono h fun _ _ h => h)
theorem w_if {t : C} {a b : List Pe.S} (h : (ev P F t r S).post (onB fun k S1 => (k = true → (exB P F a r S1).post (goOn P F X ss QF) X) ∧ (k = false → (exB P F b r S1).post (goOn P F X ss QF) X)) X) : (exB P F (.ite t a b :: ss) r S).post QF X := by
  refine w_st ?_
  rw [exS]; exact w_bind (w_tst (w_mono h fun w S h => by
    cases w <;> first | exact h.elim | skip
    rename_i b
    cases b with
    | true => exact h.1 rfl
    | false => exact h.2 rfl))
/-- the test is known -/
theorem w_if_t {t : C} {a b : List Pe.S} (h : ev P F t r S = .ok (.bl true) S') (q : (exB P F a r S').post (goOn P F X ss QF) X) : (exB P F (.ite t a b :: ss) r S).post QF X :=
  w_if (w_eq h ⟨fun _ => q, nofun⟩)
theorem w_if_f {t : C} {a : List Pe.S} (h : ev P F t r S = .ok (.bl false) S') (q : (exB P F ss r S').post QF X) : (exB P F (.ite t a [] :: ss) r S).post QF X :=
  w_if (w_eq h ⟨nofun, fun _ => q⟩)
theorem w_if_c {t : C} {a b : List Pe.S} {k : Bool} (h : ev P F t r S = .ok (.bl k) S') (q1 : k = true → (exB P F a r S').post (goOn P F X ss QF) X) (q2 : k = false → (exB P F b r S').post (goOn P F X ss QF) X) : (exB P F (.ite t a b :: ss) r S).post QF X :=
  w_if (w_eq h ⟨q1, q2⟩)
theorem w_nx (h : (exB P F ss r S).post QF X) : (exB P F (.nx :: ss) r S).post QF X := w_st h
theorem w_brk (h : QF (.bk r) S) : (exB P F (.brk :: ss) r S).post QF X := w_st h
theorem w_cont (h : QF (.ct r) S) : (exB P F (.cont :: ss) r S).post QF X := w_st h
theorem w_mat {i : Nat} {p : Pt} {a b : List Pe.S} {w : Wv} {o : Option Ev} (h : r[i]? = some w) (n : w ≠ .unb) (hm : matP S p w r = some o)
    (q : match o with | none => (exB P F b r S).post (goOn P F X ss QF) X | some r' => (exB P F a r' S).post (goOn P F X ss QF) X) : (exB P F (.mat i p a b :: ss) r S).post QF X := by
  refine w_st ?_
  rw [exS, getV_some h n, R.bind_ok, hm]
  cases o with
  | none => exact q
  | some r' => exact q
/-! ### loops -/
/-- slot by slot -/
def atE (r : Ev) (j : Nat) : Wv := r.getD j .unb
theorem w_for {g : Tg} {it : Ic} {b : List Pe.S} (Ef : (Nat → Wv) → Ev) (J : Sto → Nat → (Nat → Wv) → Sto → Prop)
    (hi : (evI P F it r S).post (fun i S1 => r = Ef (atE r) ∧ J S1 0 (atE r) S1 ∧ (∀ k v S2, k ≤ i.xs.length → J S1 k v S2 → i.ok S2 = true) ∧
      (∀ k x v S2, i.xs[k]? = some x → J S1 k v S2 → ∃ r1, bindG g x (Ef v) = some r1 ∧ (exB P F b r1 S2).post (fun fl S3 => match fl with
        | .nx r' => r' = Ef (atE r') ∧ J S1 (k + 1) (atE r') S3
        | .ct r' => r' = Ef (atE r') ∧ J S1 (k + 1) (atE r') S3
        | .bk r' => (exB P F ss r' S3).post QF X
        | .rt w => QF (.rt w) S3) X) ∧
      (∀ v S2, J S1 i.xs.length v S2 → (exB P F ss (Ef v) S2).post QF X)) X) : (exB P F (.for_ g it b :: ss) r S).post QF X := by
  refine w_st ?_
  rw [exS]
  refine w_bind (w_mono hi fun i S1 ⟨h1, h2, h3, h4, h5⟩ => ?_)
  have key : ∀ (n k : Nat) (v : Nat → Wv) (S2 : Sto), k + n = i.xs.length → J S1 k v S2 → (loopS g i.ok (fun r' S2 => exB P F b r' S2) (i.xs.drop k) (Ef v) S2).post (goOn P F X ss QF) X := by
    intro n
    induction n with
    | zero =>
      intro k v S2 hk hJ
      have e : k = i.xs.length := by omega
      subst e
      rw [List.drop_length]
      unfold loopS
      rw [if_pos (h3 _ v S2 (Nat.le_refl _) hJ)]
      exact h5 v S2 hJ
    | succ n ih =>
      intro k v S2 hk hJ
      have hl : k < i.xs.length := by omega
      rw [List.drop_eq_getElem_cons hl]
      unfold loopS
      rw [if_pos (h3 _ v S2 (by omega) hJ)]
      obtain ⟨r1, e1, q⟩ := h4 k i.xs[k] v S2 (List.getElem?_eq_getElem hl) hJ
      rw [e1]
      refine w_bind (w_mono q fun fl S3 q => ?_)
      cases fl with
      | nx r' =>
        dsimp only at q ⊢
        rw [q.1]
        exact ih (k + 1) _ S3 (by omega) q.2
      | ct r' =>
        dsimp only at q ⊢
        rw [q.1]
        exact ih (k + 1) _ S3 (by omega) q.2
      | bk r' => exact q
      | rt w => exact q
  have := key i.xs.length 0 _ S1 (by omega) h2
  rw [List.drop_zero, ← h1] at this
  exact this
/-! ### calls -/
/-- what a call leaves -/
def endC (n : Nat) (Q : Wv → Sto → Prop) : Fl → Sto → Prop
  | .rt v, S => Q v (sweep n v S)
  | .nx _, S => Q .non (sweep n .non S)
  | _, _ => False
theorem w_call {f n np ns : Nat} {ws : List Wv} {body : List Pe.S} (h : P.fn f = some ⟨np, ns, false, body⟩) (hl : ws.length = np) (hn : np ≤ ns)
    (q : (exB P (callN P n) body (ws ++ List.replicate (ns - np) .unb) S).post (endC S.length Q) X) : (callN P (n + 1) f ws S).post Q X := by
  rw [call_eq h rfl hl hn]
  exact w_bind (w_mono q fun f S1 h => by cases f <;> exact h)
theorem w_rt {v : Wv} {n : Nat} (q : Q v (sweep n v S)) : endC n Q (.rt v) S := q
theorem w_rs {v : Wv} {n : Nat} (h : S.length ≤ n) (q : Q v S) : endC n Q (.rt v) S := by
  show Q v (sweep n v S)
  rw [sweep_same h]; exact q
theorem w_rc {v : Wv} {n : Nat} {E : Sto} (h : S.length = n) (c : Cl S) (u : under n v = true) (q : Q v S) : endC n Q (.rt v) (S ++ E) := by
  show Q v (sweep n v (S ++ E))
  subst h; rw [sweep_cut c u]; exact q
end Pe

set_option Elab.async false
set_option linter.all false
set_option maxRecDepth 100000
set_option maxHeartbeats 4000000
/-! Runs: guards as the law tells them, random stacks. -/
namespace Pe
open PySem L2
local macro_rules | `(tactic| subst_eqs) => `(tactic| (repeat (first | ((with_reducible refine w_vx ?_); refine ⟨_, rfl, ?_, ?_⟩; (· (first | assumption | (intro hh; cases hh; done) | (apply gd_nu; assumption)))) | (with_reducible refine w_k ?_) | (with_reducible refine w_cons ?_) | (with_reducible refine w_nil ?_) | (with_reducible refine w_fn ?_) | (with_reducible refine w_bin ?_) | (with_reducible refine w_cmp ?_) | (with_reducible refine w_tup ?_) | (with_reducible refine w_idx ?_) | (with_reducible refine w_onB ?_) | (with_reducible refine w_exp ?_) | (with_reducible refine w_ret ?_) | (with_reducible refine w_end ?_) | (with_reducible refine w_goNx ?_) | (with_reducible refine w_goRt ?_) | (with_reducible refine w_nx ?_) | (with_reducible refine w_if ?_) | (with_reducible refine w_seti ?_) | (with_reducible refine w_seta ?_) | (with_reducible refine w_slc ?_) | (with_reducible refine w_on ?_) | (with_reducible refine w_os ?_) | (with_reducible refine w_p1 ?_) | (with_reducible refine w_p2 ?_) | (with_reducible refine w_dspf ?_) | (with_reducible refine w_dspt ?_) | (with_reducible refine w_mut ?_) | (with_reducible refine w_isi ?_) | (with_reducible refine w_not ?_) | (with_reducible refine w_and_ ?_) | (with_reducible refine w_or_ ?_) | (with_reducible refine w_all0 ?_) | (with_reducible refine w_any0 ?_) | (with_reducible refine w_all ?_) | (with_reducible refine w_any ?_) | (with_reducible refine w_cmp2 ?_) | (with_reducible refine w_ite ?_) | (with_reducible refine w_frz ?_) | (with_reducible refine w_att ?_) | (with_reducible refine w_mth ?_) | (with_reducible refine w_lst ?_) | (with_reducible refine w_srt ?_) | (with_reducible refine w_fnk ?_) | (with_reducible refine w_stp ?_) | (with_reducible refine w_rng ?_) | (with_reducible refine w_enm ?_) | (with_reducible refine w_iter ?_) | (with_reducible refine w_of slT_lo ?_) | (with_reducible refine w_of slT_hi ?_) | (with_reducible refine w_of slT_lo1 ?_) | (with_reducible refine w_of slT_hi1 ?_) | (with_reducible refine w_of lst_tup ?_) | (with_reducible refine w_of idx0 ?_) | (with_reducible refine w_of idx1 ?_) | (with_reducible refine w_of eq_str ?_) | (with_reducible refine w_of len_tup ?_) | (with_reducible refine w_of add_ok ?_) | (with_reducible refine w_of subi_ok ?_) | (with_reducible refine w_of cmp_int_eq ?_) | (with_reducible refine w_of cmp_int_ne ?_) | (with_reducible refine w_of cmp_int_lt ?_) | (with_reducible refine w_of cmp_int_le ?_) | (with_reducible refine w_of cmp_int_gt ?_) | (with_reducible refine w_of cmp_int_ge ?_) | (with_reducible refine w_of q_po ?_) | ((with_reducible refine w_len ?_ ?_); (· exact of_decide_eq_true rfl)) | ((with_reducible refine w_asg1 ?_ ?_); (· exact of_decide_eq_true rfl)) | ((with_reducible refine w_par ⟨?_, ?_⟩ ?_); (· exact of_decide_eq_true rfl); (· exact of_decide_eq_true rfl)) | ((with_reducible refine w_newf ?_ ?_); (· exact of_decide_eq_true rfl)) | ((with_reducible refine w_newt ?_ ?_); (· exact of_decide_eq_true rfl)) | ((with_reducible refine w_of (add_lst ?_) ?_); (· exact of_decide_eq_true rfl)) | ((with_reducible refine w_of (add_tup ?_) ?_); (· exact of_decide_eq_true rfl)) | ((with_reducible refine w_tt ?_ ?_); (· rfl)) | ((with_reducible refine w_ff ?_ ?_); (· rfl)) | ((with_reducible refine w_tt2 ?_ ?_); (· rfl)) | ((with_reducible refine w_ff2 ?_ ?_); (· rfl)) | ((with_reducible refine w_rs ?_ ?_); (· exact Nat.le_refl _)))))
local macro_rules | `(tactic| and_intros) => `(tactic| (repeat (first | ((with_reducible refine w_vx ?_); refine ⟨_, rfl, ?_, ?_⟩; (· (first | assumption | (intro hh; cases hh; done) | (apply gd_nu; assumption)))) | (with_reducible refine w_k ?_) | (with_reducible refine w_cons ?_) | (with_reducible refine w_nil ?_) | (with_reducible refine w_fn ?_) | (with_reducible refine w_bin ?_) | (with_reducible refine w_cmp ?_) | (with_reducible refine w_tup ?_) | (with_reducible refine w_idx ?_) | (with_reducible refine w_onB ?_) | (with_reducible refine w_exp ?_) | (with_reducible refine w_ret ?_) | (with_reducible refine w_end ?_) | (with_reducible refine w_goNx (w_end ?_)) | (with_reducible refine w_goRt ?_) | (with_reducible refine w_nx ?_) | (with_reducible refine w_if ?_) | (with_reducible refine w_seti ?_) | (with_reducible refine w_seta ?_) | (with_reducible refine w_slc ?_) | (with_reducible refine w_on ?_) | (with_reducible refine w_os ?_) | (with_reducible refine w_p1 ?_) | (with_reducible refine w_p2 ?_) | (with_reducible refine w_dspf ?_) | (with_reducible refine w_dspt ?_) | (with_reducible refine w_mut ?_) | (with_reducible refine w_isi ?_) | (with_reducible refine w_not ?_) | (with_reducible refine w_and_ ?_) | (with_reducible refine w_or_ ?_) | (with_reducible refine w_all0 ?_) | (with_reducible refine w_any0 ?_) | (with_reducible refine w_all ?_) | (with_reducible refine w_any ?_) | (with_reducible refine w_cmp2 ?_) | (with_reducible refine w_ite ?_) | (with_reducible refine w_frz ?_) | (with_reducible refine w_att ?_) | (with_reducible refine w_mth ?_) | (with_reducible refine w_lst ?_) | (with_reducible refine w_srt ?_) | (with_reducible refine w_fnk ?_) | (with_reducible refine w_stp ?_) | (with_reducible refine w_rng ?_) | (with_reducible refine w_enm ?_) | (with_reducible refine w_iter ?_) | (with_reducible refine w_of slT_lo ?_) | (with_reducible refine w_of slT_hi ?_) | (with_reducible refine w_of slT_lo1 ?_) | (with_reducible refine w_of slT_hi1 ?_) | (with_reducible refine w_of lst_tup ?_) | (with_reducible refine w_of idx0 ?_) | (with_reducible refine w_of idx1 ?_) | (with_reducible refine w_of eq_str ?_) | (with_reducible refine w_of len_tup ?_) | (with_reducible refine w_of add_ok ?_) | (with_reducible refine w_of subi_ok ?_) | (with_reducible refine w_of cmp_int_eq ?_) | (with_reducible refine w_of cmp_int_ne ?_) | (with_reducible refine w_of cmp_int_lt ?_) | (with_reducible refine w_of cmp_int_le ?_) | (with_reducible refine w_of cmp_int_gt ?_) | (with_reducible refine w_of cmp_int_ge ?_) | (with_reducible refine w_of q_po ?_) | ((with_reducible refine w_len ?_ ?_); (· exact of_decide_eq_true rfl)) | ((with_reducible refine w_asg1 ?_ ?_); (· exact of_decide_eq_true rfl)) | ((with_reducible refine w_par ⟨?_, ?_⟩ ?_); (· exact of_decide_eq_true rfl); (· exact of_decide_eq_true rfl)) | ((with_reducible refine w_newf ?_ ?_); (· exact of_decide_eq_true rfl)) | ((with_reducible refine w_newt ?_ ?_); (· exact of_decide_eq_true rfl)) | ((with_reducible refine w_of (add_lst ?_) ?_); (· exact of_decide_eq_true rfl)) | ((with_reducible refine w_of (add_tup ?_) ?_); (· exact of_decide_eq_true rfl)) | ((with_reducible refine w_tt ?_ ?_); (· rfl)) | ((with_reducible refine w_ff ?_ ?_); (· rfl)) | ((with_reducible refine w_tt2 ?_ ?_); (· rfl)) | ((with_reducible refine w_ff2 ?_ ?_); (· rfl)) | ((with_reducible refine w_rs ?_ ?_); (· exact Nat.le_refl _)))))
variable {P : Pg} {n l B : Nat} {S : Sto}
def layStep : List Pe.S := [.ite (.or [.not (.isi (.v 2) [.tuple]), .cmp .ne (.p1 .len (.v 2)) (.k (.int 2)), .not (.fn 50 [.v 0, .idx (.v 2) (.k (.int 0))])]) [.ret (.k (.bl false))] [], .asg (.nm 3) (.idx (.v 2) (.k (.int 1))), .ite (.isi (.v 3) [.tuple]) [.ite (.or [.cmp .ne (.p1 .len (.v 3)) (.k (.int 2)), .cmp .notin (.p1 .repr (.idx (.v 3) (.k (.int 0)))) (.tup [.k (.str "'keep'"), .k (.str "'raise'"), .k (.str "'pass'")])]) [.ret (.k (.bl false))] [], .ite (.and [.cmp .eq (.idx (.v 3) (.k (.int 0))) (.k (.str "keep")), .not (.fn 50 [.v 0, .idx (.v 3) (.k (.int 1))])]) [.ret (.k (.bl false))] [], .ite (.and [.cmp .eq (.idx (.v 3) (.k (.int 0))) (.k (.str "raise")), .cmp .notin (.fn 43 [.v 0, .idx (.v 3) (.k (.int 1))]) (.tup [.k (.int 0), .k (.int 1)])]) [.ret (.k (.bl false))] [], .ite (.and [.cmp .eq (.idx (.v 3) (.k (.int 0))) (.k (.str "pass")), .not (.fn 51 [.v 0, .idx (.v 3) (.k (.int 1))])]) [.ret (.k (.bl false))] []] [.ite (.cmp .notin (.p1 .repr (.v 3)) (.tup [.k (.str "'drop'"), .k (.str "'back'")])) [.ret (.k (.bl false))] []]]
theorem isi_t {v : Wv} (h : gd v = true) : isAny S v [.tuple] = some (isTup v) := isi_tup h
theorem len2 {xs : List Wv} (h : ¬ xs.length = 2) : (!decide ((xs.length : Int) = 2)) = true := by
  rw [decide_eq_false (by omega)]; rfl
/-- the answer of a step -/
def laySt (ls : List Str) (x : Wv) (w0 w1 : Wv) (S : Sto) : Fl → Sto → Prop
  | .nx r, S' => S' = S ∧ stC ls x = true ∧ ∃ u, r = [w0, w1, x, u]
  | .rt v, S' => S' = S ∧ stC ls x = false ∧ v = .bl false
  | _, _ => False
theorem not_in {o : Bool} {x y : Wv} (h : inW S x y = some o) : cmpW .notin S x y = some (!o) := by
  show (inW S x y).map not = _
  rw [h]
  rfl
theorem nt {b : Bool} (h : (!b) = true) : b = false := by cases b <;> first | rfl | cases h
theorem nf {b : Bool} (h : (!b) = false) : b = true := by cases b <;> first | rfl | cases h
theorem isX_of {y : Str} {v : Wv} (h : isX y v = true) : v = .str y := by
  cases v <;> first | (cases h; done) | skip
  rename_i x
  rw [of_decide_eq_true (p := x = y) h]
theorem isX_eq {y : Str} {v : Wv} (h : gd v = true) (hy : (Wv.str y).toD.canLay0 = true) : cmpW .eq S v (.str y) = some (isX y v) := by
  obtain ⟨h1, h2, _, _, h5, _⟩ := gd_ok v h
  cases v with
  | str x => rfl
  | unb => cases h
  | ref _ => cases h
  | cls _ => cases h
  | scr _ => cases h
  | _ =>
    show eqD _ _ = _
    unfold eqD
    rw [if_pos ⟨h1, rfl, h2, hy, by show min _ (Wv.str y).toD.depth ≤ 190; simp only [Wv.toD, PyData.depth]; omega⟩]
    simp [Wv.toD, PyData.eqv, isX]
theorem lay_step (H : HasL P) {ls : List Str} {w1 u3 : Wv} {x : Wv} (hx : pk x = true) (hw : wei x ≤ 200000) (hD : dep x ≤ 60) (hd : dep x + 8 ≤ n)
    (ih : ∀ v, pk v = true → wei v ≤ 200000 → dep v < dep x → callN P n 51 [.lst (stl ls), v] S = .ok (.bl (stG ls v)) S) :
    (exB P (callN P n) layStep [.lst (stl ls), w1, x, u3] S).post (laySt ls x (.lst (stl ls)) w1 S) NX := by
  obtain ⟨m, rfl⟩ : ∃ m, n = m + 1 := ⟨n - 1, by omega⟩
  have gx := pk_gd x hx
  unfold layStep
  cases hp : isPr x with
  | false =>
    have e : stC ls x = false := stC_no hp
    cases hT : isTup x with
    | false =>
      subst_eqs
      refine w_of ((isi_tup gx).trans (by rw [hT])) ?_
      subst_eqs
      exact ⟨rfl, e, rfl⟩
    | true =>
      obtain ⟨xs, rfl⟩ : ∃ xs, x = .tup xs := by cases x <;> first | exact ⟨_, rfl⟩ | cases hT
      have h2 : ¬ xs.length = 2 := fun z => by
        match xs, z with
        | [a, b], _ => cases hp
      subst_eqs
      refine w_of ((isi_tup gx).trans (by rw [hT])) ?_
      subst_eqs
      refine w_tt (len2 h2) ?_
      subst_eqs
      exact ⟨rfl, e, rfl⟩
  | true =>
    obtain ⟨a, b, rfl⟩ := isPr_of hp
    have ga : gd a = true := (gd2 gx).1
    have gb : gd b = true := (gd2 gx).2
    have pb : pk b = true := by
      simp only [pk, pks, Bool.and_eq_true] at hx
      exact hx.2.1
    simp only [wei, weis] at hw
    have e : stC ls (.tup [a, b]) = (stK ls a && stA ls b) := stC_2
    subst_eqs
    refine w_of (v := true) rfl ?_
    subst_eqs
    refine w_eq (run_lawlabels H ga (by omega)) ?_
    subst_eqs
    cases hk : stK ls a with
    | false =>
      rw [hk] at e
      subst_eqs
      exact ⟨rfl, e, rfl⟩
    | true =>
      rw [hk, Bool.true_and] at e
      subst_eqs
      refine w_of (isi_tup gb) ?_
      subst_eqs
      cases hT : isTup b with
      | false =>
        subst_eqs
        refine w_of (repr_ok gb (by simp only [dep, deps] at hD; omega) (by omega)) ?_
        subst_eqs
        refine w_of (not_in (in_word pb)) ?_
        subst_eqs
        have e2 : stA ls b = (isX DROP b || isX BACK b) := by
          cases b <;> first | rfl | cases hT
        rw [e2] at e
        refine ⟨fun c => ?_, fun c => ?_⟩
        · subst_eqs
          exact ⟨rfl, e.trans (nt c), rfl⟩
        · subst_eqs
          exact ⟨rfl, e.trans (nf c), _, rfl⟩
      | true =>
        subst_eqs
        obtain ⟨ys, rfl⟩ : ∃ xs, b = .tup xs := by cases b <;> first | exact ⟨_, rfl⟩ | cases hT
        by_cases h2 : ys.length = 2
        · obtain ⟨c, d, rfl⟩ : ∃ c d, ys = [c, d] := by
            match ys, h2 with
            | [c, d], _ => exact ⟨c, d, rfl⟩
          have gc : gd c = true := (gd2 gb).1
          have gD : gd d = true := (gd2 gb).2
          have pc : pk c = true ∧ pk d = true := by
            simp only [pk, pks, Bool.and_eq_true] at pb
            exact ⟨pb.1, pb.2.1⟩
          simp only [wei, weis] at hw
          simp only [dep, deps] at hd hD ih
          have e2 := stA_2 (ls := ls) (a := c) (b := d)
          rw [e2] at e
          subst_eqs
          refine w_of (repr_ok gc (by omega) (by omega)) ?_
          subst_eqs
          refine w_of (not_in (in_act pc.1)) ?_
          subst_eqs
          cases k1 : isX KEEP c with
          | true =>
            have := isX_of k1
            subst this
            rw [kind_1 rfl] at e
            subst_eqs
            refine w_eq (run_lawlabels H gD (by omega)) ?_
            subst_eqs
            refine ⟨fun c => ?_, fun c => ?_⟩
            · subst_eqs
              exact ⟨rfl, e.trans (nt c), rfl⟩
            · subst_eqs
              exact ⟨rfl, e.trans (nf c), _, rfl⟩
          | false =>
            cases k2 : isX RAIS c with
            | true =>
              have := isX_of k2
              subst this
              rw [kind_2 (by decide) rfl] at e
              subst_eqs
              refine w_eq (run_stars H.f (dep d) _ d gD (by omega) (Nat.le_refl _) (by omega)) ?_
              subst_eqs
              refine w_of (not_in in_01b) ?_
              subst_eqs
              refine ⟨fun c => ?_, fun c => ?_⟩
              · subst_eqs
                exact ⟨rfl, e.trans (nt c), rfl⟩
              · subst_eqs
                exact ⟨rfl, e.trans (nf c), _, rfl⟩
            | false =>
              cases k3 : isX PASS c with
              | true =>
                have := isX_of k3
                subst this
                rw [kind_3 (by decide) (by decide) rfl] at e
                subst_eqs
                refine w_eq (ih d pc.2 (by omega) (by omega)) ?_
                subst_eqs
                refine ⟨fun c => ?_, fun c => ?_⟩
                · subst_eqs
                  exact ⟨rfl, e.trans (nt c), rfl⟩
                · subst_eqs
                  exact ⟨rfl, e.trans (nf c), _, rfl⟩
              | false =>
                have : kindA c = 0 := by
                  cases c <;> first | rfl | skip
                  rename_i x
                  exact kind_0 (of_decide_eq_false k1) (of_decide_eq_false k2) (of_decide_eq_false k3)
                rw [this] at e
                subst_eqs
                exact ⟨rfl, e, rfl⟩
        · refine w_tt (len2 h2) ?_
          subst_eqs
          have e2 : stA ls (.tup ys) = false := by
            match ys, h2 with
            | [], _ => rfl
            | [a], _ => rfl
            | [a, b], h => exact absurd rfl h
            | a :: b :: c :: r, _ => rw [stA, stA2, stA3]; rfl
          rw [e2] at e
          exact ⟨rfl, e, rfl⟩
theorem run_lawlayer (H : HasL P) {ls : List Str} (S : Sto) : ∀ (k n : Nat) (v : Wv), dep v ≤ k → k + 12 ≤ n → pk v = true → wei v ≤ 200000 → dep v ≤ 60 → callN P n 51 [.lst (stl ls), v] S = .ok (.bl (stG ls v)) S := by
  intro k
  induction k with
  | zero =>
    intro n v hd hn hv hw hD
    obtain ⟨m, rfl⟩ : ∃ m, n = m + 1 := ⟨n - 1, by omega⟩
    have gv := pk_gd v hv
    have hT : isTup v = false := by cases v <;> first | rfl | (simp [dep] at hd; done)
    have e : stG ls v = false := by cases v <;> first | rfl | cases hT
    refine w_is (w_call H.f51 rfl (by decide) ?_)
    subst_eqs
    refine w_of ((isi_tup gv).trans (by rw [hT])) ?_
    subst_eqs
    exact ⟨by rw [e], rfl⟩
  | succ k ih =>
    intro n v hd hn hv hw hD
    obtain ⟨m, rfl⟩ : ∃ m, n = m + 1 := ⟨n - 1, by omega⟩
    have gv := pk_gd v hv
    refine w_is (w_call H.f51 rfl (by decide) ?_)
    cases hT : isTup v with
    | false =>
      have e : stG ls v = false := by cases v <;> first | rfl | cases hT
      subst_eqs
      refine w_of ((isi_tup gv).trans (by rw [hT])) ?_
      subst_eqs
      exact ⟨by rw [e], rfl⟩
    | true =>
      obtain ⟨xs, rfl⟩ : ∃ xs, v = .tup xs := by cases v <;> first | exact ⟨_, rfl⟩ | cases hT
      subst_eqs
      refine w_of ((isi_tup gv).trans (by rw [hT])) ?_
      subst_eqs
      refine w_for (fun v => [.lst (stl ls), .tup xs, v 2, v 3]) (fun S1 k v S2 => S2 = S ∧ (xs.take k).all (stC ls) = true) ?_
      subst_eqs
      refine w_of (v := ⟨xs, none⟩) rfl ?_
      refine ⟨rfl, ⟨rfl, rfl⟩, fun _ _ _ _ _ => rfl, fun k x v S2 hx hJ => ?_, fun v S2 hJ => ?_⟩
      · obtain ⟨rfl, hJ⟩ := hJ
        have hm : x ∈ xs := List.mem_of_getElem? hx
        have wx := weis_mem hm
        have dx := (deps_le (n := deps xs)).mp (Nat.le_refl _) x hm
        simp only [wei] at hw
        simp only [dep] at hd hD
        have px := pks_iff.mp (by simpa [pk] using hv : pks xs = true) x hm
        refine ⟨_, rfl, w_mono (lay_step H (u3 := v 3) (w1 := .tup xs) px (by omega) (by omega) (by omega) fun u hu h1 h2 => ih m u (by omega) (by omega) hu h1 (by omega)) fun fl S3 q => ?_⟩
        have tk : xs.take (k + 1) = xs.take k ++ [x] := by rw [List.take_add_one, hx]; rfl
        cases fl with
        | nx r =>
          obtain ⟨rfl, h1, u, rfl⟩ := q
          exact ⟨rfl, rfl, by rw [tk, List.all_append, hJ, List.all_cons, h1]; rfl⟩
        | rt w =>
          obtain ⟨rfl, h1, rfl⟩ := q
          refine w_rs (Nat.le_refl _) ⟨?_, rfl⟩
          have : stG ls (.tup xs) = false := by
            show xs.all (stC ls) = false
            rw [List.all_eq_false]
            exact ⟨x, hm, by rw [h1]; exact Bool.false_ne_true⟩
          rw [this]
        | bk r => exact q.elim
        | ct r => exact q.elim
      · obtain ⟨rfl, hJ⟩ := hJ
        rw [List.take_length] at hJ
        subst_eqs
        refine ⟨?_, rfl⟩
        rw [show stG ls (.tup xs) = xs.all (stC ls) from rfl, hJ]
end Pe

set_option Elab.async false
set_option linter.all false
set_option maxRecDepth 100000
set_option maxHeartbeats 4000000
/-! Runs: random stacks, bent ones. -/
namespace Pe
open PySem L2
local macro_rules | `(tactic| subst_eqs) => `(tactic| (repeat (first | ((with_reducible refine w_vx ?_); refine ⟨_, rfl, ?_, ?_⟩; (· (first | assumption | (intro hh; cases hh; done) | (apply gd_nu; assumption)))) | (with_reducible refine w_k ?_) | (with_reducible refine w_cons ?_) | (with_reducible refine w_nil ?_) | (with_reducible refine w_fn ?_) | (with_reducible refine w_bin ?_) | (with_reducible refine w_cmp ?_) | (with_reducible refine w_tup ?_) | (with_reducible refine w_idx ?_) | (with_reducible refine w_onB ?_) | (with_reducible refine w_exp ?_) | (with_reducible refine w_ret ?_) | (with_reducible refine w_end ?_) | (with_reducible refine w_goNx ?_) | (with_reducible refine w_goRt ?_) | (with_reducible refine w_nx ?_) | (with_reducible refine w_if ?_) | (with_reducible refine w_seti ?_) | (with_reducible refine w_seta ?_) | (with_reducible refine w_slc ?_) | (with_reducible refine w_on ?_) | (with_reducible refine w_os ?_) | (with_reducible refine w_p1 ?_) | (with_reducible refine w_p2 ?_) | (with_reducible refine w_dspf ?_) | (with_reducible refine w_dspt ?_) | (with_reducible refine w_mut ?_) | (with_reducible refine w_isi ?_) | (with_reducible refine w_not ?_) | (with_reducible refine w_and_ ?_) | (with_reducible refine w_or_ ?_) | (with_reducible refine w_all0 ?_) | (with_reducible refine w_any0 ?_) | (with_reducible refine w_all ?_) | (with_reducible refine w_any ?_) | (with_reducible refine w_cmp2 ?_) | (with_reducible refine w_ite ?_) | (with_reducible refine w_frz ?_) | (with_reducible refine w_att ?_) | (with_reducible refine w_mth ?_) | (with_reducible refine w_lst ?_) | (with_reducible refine w_srt ?_) | (with_reducible refine w_fnk ?_) | (with_reducible refine w_stp ?_) | (with_reducible refine w_rng ?_) | (with_reducible refine w_enm ?_) | (with_reducible refine w_iter ?_) | (with_reducible refine w_of slT_lo ?_) | (with_reducible refine w_of slT_hi ?_) | (with_reducible refine w_of slT_lo1 ?_) | (with_reducible refine w_of slT_hi1 ?_) | (with_reducible refine w_of lst_tup ?_) | (with_reducible refine w_of idx0 ?_) | (with_reducible refine w_of idx1 ?_) | (with_reducible refine w_of eq_str ?_) | (with_reducible refine w_of len_tup ?_) | (with_reducible refine w_of add_ok ?_) | (with_reducible refine w_of subi_ok ?_) | (with_reducible refine w_of cmp_int_eq ?_) | (with_reducible refine w_of cmp_int_ne ?_) | (with_reducible refine w_of cmp_int_lt ?_) | (with_reducible refine w_of cmp_int_le ?_) | (with_reducible refine w_of cmp_int_gt ?_) | (with_reducible refine w_of cmp_int_ge ?_) | (with_reducible refine w_of q_po ?_) | ((with_reducible refine w_len ?_ ?_); (· exact of_decide_eq_true rfl)) | ((with_reducible refine w_asg1 ?_ ?_); (· exact of_decide_eq_true rfl)) | ((with_reducible refine w_par ⟨?_, ?_⟩ ?_); (· exact of_decide_eq_true rfl); (· exact of_decide_eq_true rfl)) | ((with_reducible refine w_newf ?_ ?_); (· exact of_decide_eq_true rfl)) | ((with_reducible refine w_newt ?_ ?_); (· exact of_decide_eq_true rfl)) | ((with_reducible refine w_of (add_lst ?_) ?_); (· exact of_decide_eq_true rfl)) | ((with_reducible refine w_of (add_tup ?_) ?_); (· exact of_decide_eq_true rfl)) | ((with_reducible refine w_tt ?_ ?_); (· rfl)) | ((with_reducible refine w_ff ?_ ?_); (· rfl)) | ((with_reducible refine w_tt2 ?_ ?_); (· rfl)) | ((with_reducible refine w_ff2 ?_ ?_); (· rfl)) | ((with_reducible refine w_rs ?_ ?_); (· exact Nat.le_refl _)))))
local macro_rules | `(tactic| and_intros) => `(tactic| (repeat (first | ((with_reducible refine w_vx ?_); refine ⟨_, rfl, ?_, ?_⟩; (· (first | assumption | (intro hh; cases hh; done) | (apply gd_nu; assumption)))) | (with_reducible refine w_k ?_) | (with_reducible refine w_cons ?_) | (with_reducible refine w_nil ?_) | (with_reducible refine w_fn ?_) | (with_reducible refine w_bin ?_) | (with_reducible refine w_cmp ?_) | (with_reducible refine w_tup ?_) | (with_reducible refine w_idx ?_) | (with_reducible refine w_onB ?_) | (with_reducible refine w_exp ?_) | (with_reducible refine w_ret ?_) | (with_reducible refine w_end ?_) | (with_reducible refine w_goNx (w_end ?_)) | (with_reducible refine w_goRt ?_) | (with_reducible refine w_nx ?_) | (with_reducible refine w_if ?_) | (with_reducible refine w_seti ?_) | (with_reducible refine w_seta ?_) | (with_reducible refine w_slc ?_) | (with_reducible refine w_on ?_) | (with_reducible refine w_os ?_) | (with_reducible refine w_p1 ?_) | (with_reducible refine w_p2 ?_) | (with_reducible refine w_dspf ?_) | (with_reducible refine w_dspt ?_) | (with_reducible refine w_mut ?_) | (with_reducible refine w_isi ?_) | (with_reducible refine w_not ?_) | (with_reducible refine w_and_ ?_) | (with_reducible refine w_or_ ?_) | (with_reducible refine w_all0 ?_) | (with_reducible refine w_any0 ?_) | (with_reducible refine w_all ?_) | (with_reducible refine w_any ?_) | (with_reducible refine w_cmp2 ?_) | (with_reducible refine w_ite ?_) | (with_reducible refine w_frz ?_) | (with_reducible refine w_att ?_) | (with_reducible refine w_mth ?_) | (with_reducible refine w_lst ?_) | (with_reducible refine w_srt ?_) | (with_reducible refine w_fnk ?_) | (with_reducible refine w_stp ?_) | (with_reducible refine w_rng ?_) | (with_reducible refine w_enm ?_) | (with_reducible refine w_iter ?_) | (with_reducible refine w_of slT_lo ?_) | (with_reducible refine w_of slT_hi ?_) | (with_reducible refine w_of slT_lo1 ?_) | (with_reducible refine w_of slT_hi1 ?_) | (with_reducible refine w_of lst_tup ?_) | (with_reducible refine w_of idx0 ?_) | (with_reducible refine w_of idx1 ?_) | (with_reducible refine w_of eq_str ?_) | (with_reducible refine w_of len_tup ?_) | (with_reducible refine w_of add_ok ?_) | (with_reducible refine w_of subi_ok ?_) | (with_reducible refine w_of cmp_int_eq ?_) | (with_reducible refine w_of cmp_int_ne ?_) | (with_reducible refine w_of cmp_int_lt ?_) | (with_reducible refine w_of cmp_int_le ?_) | (with_reducible refine w_of cmp_int_gt ?_) | (with_reducible refine w_of cmp_int_ge ?_) | (with_reducible refine w_of q_po ?_) | ((with_reducible refine w_len ?_ ?_); (· exact of_decide_eq_true rfl)) | ((with_reducible refine w_asg1 ?_ ?_); (· exact of_decide_eq_true rfl)) | ((with_reducible refine w_par ⟨?_, ?_⟩ ?_); (· exact of_decide_eq_true rfl); (· exact of_decide_eq_true rfl)) | ((with_reducible refine w_newf ?_ ?_); (· exact of_decide_eq_true rfl)) | ((with_reducible refine w_newt ?_ ?_); (· exact of_decide_eq_true rfl)) | ((with_reducible refine w_of (add_lst ?_) ?_); (· exact of_decide_eq_true rfl)) | ((with_reducible refine w_of (add_tup ?_) ?_); (· exact of_decide_eq_true rfl)) | ((with_reducible refine w_tt ?_ ?_); (· rfl)) | ((with_reducible refine w_ff ?_ ?_); (· rfl)) | ((with_reducible refine w_tt2 ?_ ?_); (· rfl)) | ((with_reducible refine w_ff2 ?_ ?_); (· rfl)) | ((with_reducible refine w_rs ?_ ?_); (· exact Nat.le_refl _)))))
variable {P : Pg} {n l B : Nat} {S T E : Sto} {X : Xq} {Q : Wv → Sto → Prop}
theorem Drw.app {S' : Sto} (w : Drw l (T ++ E) S') (hl : l < T.length) : ∃ T', S' = T' ++ E ∧ Drw l T T' := by
  rcases w with rfl | ⟨a, b, rfl⟩
  · exact ⟨T, rfl, .rfl'⟩
  · exact ⟨T.set l (src a b), List.set_append_left _ _ hl, .inr ⟨a, b, rfl⟩⟩
theorem Src.app (h : Src l B T) : Src l B (T ++ E) := by
  obtain ⟨a, b, h1, h2, h3⟩ := h
  exact ⟨a, b, by rw [get_old (List.getElem?_eq_some_iff.mp h1).1]; exact h1, h2, h3⟩
theorem Src.unapp (h : Src l B (T ++ E)) (hl : l < T.length) : Src l B T := by
  obtain ⟨a, b, h1, h2, h3⟩ := h
  exact ⟨a, b, by rw [get_old hl] at h1; exact h1, h2, h3⟩
theorem w_draw (hd : P.fn 25 = some fd_law_draw_v0) (hs : Src l B S) (hB : B ≤ 10 ^ 12) {m : Int} (h0 : 0 < m) (h1 : m ≤ 1000000)
    (q : ∀ (d : Int) (S' : Sto), 0 ≤ d → d < m → Src l (B + 1) S' → Drw l S S' → Q (.int d) S') : (callN P (n + 1) 25 [.ref l, .int m] S).post Q X := by
  obtain ⟨d, S', e, a, b, c, w⟩ := run_draw (n := n) hd hs hB h0 h1
  exact w_eq e (q d S' a b c w)
theorem w_drawE (hd : P.fn 25 = some fd_law_draw_v0) (hs : Src l B T) (hB : B ≤ 10 ^ 12) {m : Int} (h0 : 0 < m) (h1 : m ≤ 1000000)
    (q : ∀ (d : Int) (T' : Sto), 0 ≤ d → d < m → Src l (B + 1) T' → Drw l T T' → Q (.int d) (T' ++ E)) : (callN P (n + 1) 25 [.ref l, .int m] (T ++ E)).post Q X := by
  refine w_draw hd hs.app hB h0 h1 fun d S' a b c w => ?_
  have hl := hs.lt
  obtain ⟨T', rfl, w'⟩ := w.app hl
  exact q d T' a b (c.unapp (by rw [w'.len]; exact hl)) w'
theorem isBx_last {q : Nat} {xs : List Wv} (h : q = T.length) : isBx (T ++ [.lst xs]) (.ref q) = true := isBx_of (xs := xs) (by rw [h]; exact get_last)
theorem w_app {q : Nat} {xs : List Wv} {a : Wv} (h : q = T.length) (hl : xs.length < line) (k : Q .non (T ++ [.lst (xs ++ [a])])) : (mut1 .append (T ++ [.lst xs]) (.ref q) [a]).post Q X := by
  rw [mut_app (xs := xs) (by rw [h]; exact get_last) hl, h, set_last]
  exact k
theorem len_stl {ls : List Str} : pr1 .len S (.lst (stl ls)) = some (.int ls.length) := len_lst
theorem idx_stl {ls : List Str} {d : Int} (h0 : 0 ≤ d) (h1 : d < (ls.length : Int)) : ∃ x, x ∈ ls ∧ idxW S (.lst (stl ls)) (.int d) = some (.str x) := by
  have hj : d.toNat < ls.length := by omega
  exact ⟨ls[d.toNat], List.getElem_mem hj, idx_lst (j := d.toNat) (by omega) (by rw [List.getElem?_map, List.getElem?_eq_getElem hj]; rfl)⟩
theorem tuple_lst {xs : List Wv} : pr1 .tuple S (.lst xs) = some (.tup xs) := rfl
theorem tuple_ref {q : Nat} {xs : List Wv} (h : S[q]? = some (.lst xs)) : pr1 .tuple S (.ref q) = some (.tup xs) := by
  unfold pr1
  simp [h]
/-- one name of the labels is drawn -/
theorem w_pick (hd : P.fn 25 = some fd_law_draw_v0) (hs : Src l B S) (hB : B ≤ 10 ^ 12) {ls : List Str} (hl : Labels ls)
    (q : ∀ (d : Int) (x : Str) (S' : Sto), x ∈ ls → (∀ S, idxW S (.lst (stl ls)) (.int d) = some (.str x)) → Src l (B + 1) S' → Drw l S S' → Q (.int d) S') : (callN P (n + 1) 25 [.ref l, .int ls.length] S).post Q X :=
  w_draw hd hs hB (by have := hl.few.1; omega) (by have := hl.few.2; omega) fun d S' a b c w => by
    have hj : d.toNat < ls.length := by omega
    exact q d ls[d.toNat] S' (List.getElem_mem hj) (fun S => idx_lst (j := d.toNat) (by omega) (by rw [List.getElem?_map, List.getElem?_eq_getElem hj]; rfl)) c w
def fd_law_some_labels : Fd := ⟨2, 3, false, [.ret (.p1 .tuple (.lc false [2] (.nm 2) (.rng [.bin .add (.k (.int 1)) (.fn 25 [.v 0, .k (.int 2)])]) [] (.idx (.v 1) (.fn 25 [.v 0, .p1 .len (.v 1)]))))]⟩
theorem run_somelabels (h : P.fn 41 = some fd_law_some_labels) (hd : P.fn 25 = some fd_law_draw_v0) (hs : Src l B S) (hB : B ≤ 10 ^ 11) {ls : List Str} (hl : Labels ls) :
    ∃ v S', callN P (n + 2) 41 [.ref l, .lst (stl ls)] S = .ok v S' ∧ (∃ ns : List Str, v = .tup (stl ns) ∧ (∀ x ∈ ns, x ∈ ls) ∧ 1 ≤ ns.length ∧ ns.length ≤ 2) ∧ Src l (B + 3) S' ∧ Drw l S S' := by
  refine w_ex (w_call h rfl (by decide) ?_)
  subst_eqs
  refine w_lc (fun S1 k ys S2 => ∃ ns : List Str, ys = stl ns ∧ (∀ x ∈ ns, x ∈ ls) ∧ ns.length = k ∧ Src l (B + 1 + k) S2 ∧ Drw l S S2) ?_
  subst_eqs
  refine w_draw hd hs (by omega) (by decide) (by decide) fun d S1 d0 d1 s1 w1 => ?_
  subst_eqs
  refine ⟨(1 + d).toNat, by rw [Int.toNat_of_nonneg (by omega)], by omega, ?_⟩
  rw [rng_len]
  refine ⟨Nat.le_trans (show (1 + d).toNat ≤ 2 by omega) (by decide), ⟨[], rfl, by simp, rfl, s1, w1⟩, fun _ _ _ _ _ => rfl, fun k x ys S2 hx hJ => ?_, fun ys S2 hJ => ?_⟩
  · obtain ⟨ns, rfl, h1, h2, s2, w2⟩ := hJ
    obtain ⟨hk, rfl⟩ := rng_at hx
    refine ⟨_, rfl, ?_⟩
    subst_eqs
    refine w_of len_stl ?_
    subst_eqs
    refine w_pick hd s2 (by omega) hl fun d x S3 hx ix s3 w3 => ?_
    refine w_of (ix _) ?_
    refine ⟨ns ++ [x], by simp, fun y hy => ?_, by simp [h2], s3, w2.trans w3⟩
    rcases List.mem_append.mp hy with hy | hy
    · exact h1 y hy
    · rw [List.mem_singleton.mp hy]; exact hx
  · obtain ⟨ns, rfl, h1, h2, s2, w2⟩ := hJ
    refine w_newf (by rw [List.length_map, h2]; exact Nat.le_trans (show (1 + d).toNat ≤ 2 by omega) (by decide)) ?_
    refine w_of tuple_lst ?_
    subst_eqs
    refine w_rs (by rw [w2.len]; exact Nat.le_refl _) ⟨⟨ns, rfl, h1, by omega, by omega⟩, s2.mono (by omega), w2⟩
end Pe

set_option Elab.async false
set_option linter.all false
set_option maxRecDepth 100000
set_option maxHeartbeats 4000000
/-! Runs: random stacks, bent ones. -/
namespace Pe
open PySem L2
local macro_rules | `(tactic| subst_eqs) => `(tactic| (repeat (first | ((with_reducible refine w_vx ?_); refine ⟨_, rfl, ?_, ?_⟩; (· (first | assumption | (intro hh; cases hh; done) | (apply gd_nu; assumption)))) | (with_reducible refine w_k ?_) | (with_reducible refine w_cons ?_) | (with_reducible refine w_nil ?_) | (with_reducible refine w_fn ?_) | (with_reducible refine w_bin ?_) | (with_reducible refine w_cmp ?_) | (with_reducible refine w_tup ?_) | (with_reducible refine w_idx ?_) | (with_reducible refine w_onB ?_) | (with_reducible refine w_exp ?_) | (with_reducible refine w_ret ?_) | (with_reducible refine w_end ?_) | (with_reducible refine w_goNx ?_) | (with_reducible refine w_goRt ?_) | (with_reducible refine w_nx ?_) | (with_reducible refine w_if ?_) | (with_reducible refine w_seti ?_) | (with_reducible refine w_seta ?_) | (with_reducible refine w_slc ?_) | (with_reducible refine w_on ?_) | (with_reducible refine w_os ?_) | (with_reducible refine w_p1 ?_) | (with_reducible refine w_p2 ?_) | (with_reducible refine w_dspf ?_) | (with_reducible refine w_dspt ?_) | (with_reducible refine w_mut ?_) | (with_reducible refine w_isi ?_) | (with_reducible refine w_not ?_) | (with_reducible refine w_and_ ?_) | (with_reducible refine w_or_ ?_) | (with_reducible refine w_all0 ?_) | (with_reducible refine w_any0 ?_) | (with_reducible refine w_all ?_) | (with_reducible refine w_any ?_) | (with_reducible refine w_cmp2 ?_) | (with_reducible refine w_ite ?_) | (with_reducible refine w_frz ?_) | (with_reducible refine w_att ?_) | (with_reducible refine w_mth ?_) | (with_reducible refine w_lst ?_) | (with_reducible refine w_srt ?_) | (with_reducible refine w_fnk ?_) | (with_reducible refine w_stp ?_) | (with_reducible refine w_rng ?_) | (with_reducible refine w_enm ?_) | (with_reducible refine w_iter ?_) | (with_reducible refine w_of slT_lo ?_) | (with_reducible refine w_of slT_hi ?_) | (with_reducible refine w_of slT_lo1 ?_) | (with_reducible refine w_of slT_hi1 ?_) | (with_reducible refine w_of lst_tup ?_) | (with_reducible refine w_of idx0 ?_) | (with_reducible refine w_of idx1 ?_) | (with_reducible refine w_of eq_str ?_) | (with_reducible refine w_of len_tup ?_) | (with_reducible refine w_of add_ok ?_) | (with_reducible refine w_of subi_ok ?_) | (with_reducible refine w_of cmp_int_eq ?_) | (with_reducible refine w_of cmp_int_ne ?_) | (with_reducible refine w_of cmp_int_lt ?_) | (with_reducible refine w_of cmp_int_le ?_) | (with_reducible refine w_of cmp_int_gt ?_) | (with_reducible refine w_of cmp_int_ge ?_) | (with_reducible refine w_of q_po ?_) | ((with_reducible refine w_len ?_ ?_); (· exact of_decide_eq_true rfl)) | ((with_reducible refine w_asg1 ?_ ?_); (· exact of_decide_eq_true rfl)) | ((with_reducible refine w_par ⟨?_, ?_⟩ ?_); (· exact of_decide_eq_true rfl); (· exact of_decide_eq_true rfl)) | ((with_reducible refine w_newf ?_ ?_); (· exact of_decide_eq_true rfl)) | ((with_reducible refine w_newt ?_ ?_); (· exact of_decide_eq_true rfl)) | ((with_reducible refine w_of (add_lst ?_) ?_); (· exact of_decide_eq_true rfl)) | ((with_reducible refine w_of (add_tup ?_) ?_); (· exact of_decide_eq_true rfl)) | ((with_reducible refine w_tt ?_ ?_); (· rfl)) | ((with_reducible refine w_ff ?_ ?_); (· rfl)) | ((with_reducible refine w_tt2 ?_ ?_); (· rfl)) | ((with_reducible refine w_ff2 ?_ ?_); (· rfl)) | ((with_reducible refine w_rs ?_ ?_); (· exact Nat.le_refl _)))))
local macro_rules | `(tactic| and_intros) => `(tactic| (repeat (first | ((with_reducible refine w_vx ?_); refine ⟨_, rfl, ?_, ?_⟩; (· (first | assumption | (intro hh; cases hh; done) | (apply gd_nu; assumption)))) | (with_reducible refine w_k ?_) | (with_reducible refine w_cons ?_) | (with_reducible refine w_nil ?_) | (with_reducible refine w_fn ?_) | (with_reducible refine w_bin ?_) | (with_reducible refine w_cmp ?_) | (with_reducible refine w_tup ?_) | (with_reducible refine w_idx ?_) | (with_reducible refine w_onB ?_) | (with_reducible refine w_exp ?_) | (with_reducible refine w_ret ?_) | (with_reducible refine w_end ?_) | (with_reducible refine w_goNx (w_end ?_)) | (with_reducible refine w_goRt ?_) | (with_reducible refine w_nx ?_) | (with_reducible refine w_if ?_) | (with_reducible refine w_seti ?_) | (with_reducible refine w_seta ?_) | (with_reducible refine w_slc ?_) | (with_reducible refine w_on ?_) | (with_reducible refine w_os ?_) | (with_reducible refine w_p1 ?_) | (with_reducible refine w_p2 ?_) | (with_reducible refine w_dspf ?_) | (with_reducible refine w_dspt ?_) | (with_reducible refine w_mut ?_) | (with_reducible refine w_isi ?_) | (with_reducible refine w_not ?_) | (with_reducible refine w_and_ ?_) | (with_reducible refine w_or_ ?_) | (with_reducible refine w_all0 ?_) | (with_reducible refine w_any0 ?_) | (with_reducible refine w_all ?_) | (with_reducible refine w_any ?_) | (with_reducible refine w_cmp2 ?_) | (with_reducible refine w_ite ?_) | (with_reducible refine w_frz ?_) | (with_reducible refine w_att ?_) | (with_reducible refine w_mth ?_) | (with_reducible refine w_lst ?_) | (with_reducible refine w_srt ?_) | (with_reducible refine w_fnk ?_) | (with_reducible refine w_stp ?_) | (with_reducible refine w_rng ?_) | (with_reducible refine w_enm ?_) | (with_reducible refine w_iter ?_) | (with_reducible refine w_of slT_lo ?_) | (with_reducible refine w_of slT_hi ?_) | (with_reducible refine w_of slT_lo1 ?_) | (with_reducible refine w_of slT_hi1 ?_) | (with_reducible refine w_of lst_tup ?_) | (with_reducible refine w_of idx0 ?_) | (with_reducible refine w_of idx1 ?_) | (with_reducible refine w_of eq_str ?_) | (with_reducible refine w_of len_tup ?_) | (with_reducible refine w_of add_ok ?_) | (with_reducible refine w_of subi_ok ?_) | (with_reducible refine w_of cmp_int_eq ?_) | (with_reducible refine w_of cmp_int_ne ?_) | (with_reducible refine w_of cmp_int_lt ?_) | (with_reducible refine w_of cmp_int_le ?_) | (with_reducible refine w_of cmp_int_gt ?_) | (with_reducible refine w_of cmp_int_ge ?_) | (with_reducible refine w_of q_po ?_) | ((with_reducible refine w_len ?_ ?_); (· exact of_decide_eq_true rfl)) | ((with_reducible refine w_asg1 ?_ ?_); (· exact of_decide_eq_true rfl)) | ((with_reducible refine w_par ⟨?_, ?_⟩ ?_); (· exact of_decide_eq_true rfl); (· exact of_decide_eq_true rfl)) | ((with_reducible refine w_newf ?_ ?_); (· exact of_decide_eq_true rfl)) | ((with_reducible refine w_newt ?_ ?_); (· exact of_decide_eq_true rfl)) | ((with_reducible refine w_of (add_lst ?_) ?_); (· exact of_decide_eq_true rfl)) | ((with_reducible refine w_of (add_tup ?_) ?_); (· exact of_decide_eq_true rfl)) | ((with_reducible refine w_tt ?_ ?_); (· rfl)) | ((with_reducible refine w_ff ?_ ?_); (· rfl)) | ((with_reducible refine w_tt2 ?_ ?_); (· rfl)) | ((with_reducible refine w_ff2 ?_ ?_); (· rfl)) | ((with_reducible refine w_rs ?_ ?_); (· exact Nat.le_refl _)))))
variable {P : Pg} {n l B : Nat} {S T E : Sto} {X : Xq} {Q : Wv → Sto → Prop}
def fd_law_random_layer : Fd := ⟨3, 7, false, [.asg (.nm 3) (.dsp true []), .for_ (.nm 4) (.rng [.fn 25 [.v 0, .k (.int 5)]]) [.par 5 6 (.fn 25 [.v 0, .k (.int 8)]) (.k (.str "back")), .ite (.cmp .lt (.v 5) (.k (.int 2))) [.asg (.nm 6) (.k (.str "drop"))] [.ite (.cmp .eq (.v 5) (.k (.int 2))) [.asg (.nm 6) (.tup [.k (.str "keep"), .fn 41 [.v 0, .v 1]])] [.ite (.cmp .lt (.v 5) (.k (.int 6))) [.asg (.nm 6) (.tup [.k (.str "raise"), .fn 40 [.v 0, .v 1, .cmp .gt (.fn 25 [.v 0, .k (.int 3)]) (.k (.int 0)), .k (.int 2)]])] [.ite (.and [.cmp .eq (.v 5) (.k (.int 6)), .cmp .gt (.v 2) (.k (.int 0))]) [.asg (.nm 6) (.tup [.k (.str "pass"), .fn 42 [.v 0, .v 1, .bin .sub (.v 2) (.k (.int 1))]])] []]]], .ex (.mut .append (.v 3) [.tup [.fn 41 [.v 0, .v 1], .v 6]])], .ret (.p1 .tuple (.v 3))]⟩
def fd_law_random_layers : Fd := ⟨3, 4, false, [.ret (.p1 .tuple (.lc false [3] (.nm 3) (.rng [.fn 25 [.v 0, .bin .add (.v 2) (.k (.int 1))]]) [] (.fn 42 [.v 0, .v 1, .k (.int 2)])))]⟩
structure Gn (P : Pg) : Prop where
  f25 : P.fn 25 = some fd_law_draw_v0
  f40 : P.fn 40 = some fd_law_random_form
  f41 : P.fn 41 = some fd_law_some_labels
  f42 : P.fn 42 = some fd_law_random_layer
  f49 : P.fn 49 = some fd_law_random_layers
/-- a value of the laws of stacks -/
structure Lv (D W : Nat) (v : Wv) : Prop where
  p : pk v = true
  d : dep v ≤ D
  w : wei v ≤ W
theorem Lv.mono {D W D' W' : Nat} {v : Wv} (h : Lv D W v) (a : D ≤ D') (b : W ≤ W') : Lv D' W' v := ⟨h.p, Nat.le_trans h.d a, Nat.le_trans h.w b⟩
theorem low_plain {c : Nat} (h : low c) : plainc c = true := by
  unfold low at h
  simp [plainc]
  omega
theorem nm_pk {x : Str} (h : Nm x) : pk (.str x) = true := by
  simp only [pk, Bool.and_eq_true, decide_eq_true_eq, List.all_eq_true]
  exact ⟨h.2.1, fun c hc => low_plain (h.2.2 c hc)⟩
mutual
theorem pf_pk : ∀ v : Wv, pf v = true → pk v = true
  | .str x, h => by
    simp only [pf, Bool.or_eq_true, Bool.and_eq_true, decide_eq_true_eq, List.all_eq_true] at h
    rcases h with ⟨h1, h2⟩ | rfl
    · simp only [pk, Bool.and_eq_true, decide_eq_true_eq, List.all_eq_true]
      exact ⟨h1, fun c hc => low_plain (h2 c hc)⟩
    · decide +kernel
  | .tup xs, h => by
    simp only [pf, pk] at h ⊢
    exact pfs_pks xs h
  | .int _, h => by cases h
  | .unb, h => by cases h
  | .non, h => by cases h
  | .bl _, h => by cases h
  | .lst _, h => by cases h
  | .ref _, h => by cases h
  | .cls _, h => by cases h
  | .scr _, h => by cases h
theorem pfs_pks : ∀ vs : List Wv, pfs vs = true → pks vs = true
  | [], _ => rfl
  | x :: xs, h => by
    simp only [pfs, pks, Bool.and_eq_true] at h ⊢
    exact ⟨pf_pk x h.1, pfs_pks xs h.2⟩
end
mutual
theorem pk_under {k : Nat} : ∀ v : Wv, pk v = true → under k v = true
  | .non, _ => rfl
  | .bl _, _ => rfl
  | .int _, _ => rfl
  | .str _, _ => rfl
  | .tup xs, h => by simp only [pk, under] at h ⊢; exact pks_under xs h
  | .lst xs, h => by simp only [pk, under] at h ⊢; exact pks_under xs h
  | .unb, h => by cases h
  | .ref _, h => by cases h
  | .cls _, h => by cases h
  | .scr _, h => by cases h
theorem pks_under {k : Nat} : ∀ vs : List Wv, pks vs = true → unders k vs = true
  | [], _ => rfl
  | x :: xs, h => by
    simp only [pks, unders, Bool.and_eq_true] at h ⊢
    exact ⟨pk_under x h.1, pks_under xs h.2⟩
end
theorem lv_pair {D W D' W' : Nat} {a b : Wv} (ha : Lv D W a) (hb : Lv D' W' b) : Lv (max D D' + 1) (W + W' + 2) (.tup [a, b]) :=
  ⟨by simp [pk, pks, ha.p, hb.p], by have := ha.d; have := hb.d; simp only [dep, deps]; omega, by have := ha.w; have := hb.w; simp only [wei, weis]; omega⟩
theorem lv_tup {D W k : Nat} {xs : List Wv} (h : ∀ x ∈ xs, Lv D W x) (hk : xs.length ≤ k) : Lv (D + 1) (k * (W + 1)) (.tup xs) := by
  refine ⟨by simp only [pk]; exact pks_iff.mpr fun x hx => (h x hx).p, ?_, ?_⟩
  · simp only [dep]
    have := deps_le (n := D) (xs := xs) |>.mpr fun x hx => (h x hx).d
    omega
  · simp only [wei]
    have := weis_le (W := W) xs fun x hx => (h x hx).w
    exact Nat.le_trans this (Nat.mul_le_mul_right _ hk)
theorem lv_names {ls ns : List Str} (hl : Labels ls) (h : ∀ x ∈ ns, x ∈ ls) (h2 : ns.length ≤ 2) : Lv 1 18 (.tup (stl ns)) := by
  refine lv_tup (D := 0) (W := 8) (k := 2) (fun x hx => ?_) (by rw [List.length_map]; exact h2)
  obtain ⟨y, hy, rfl⟩ := List.mem_map.mp hx
  have := hl.nm y (h y hy)
  exact ⟨nm_pk this, Nat.le_refl _, this.2.1⟩
theorem lv_str {x : Str} (h : pk (.str x) = true) : Lv 0 8 (.str x) := by
  refine ⟨h, Nat.le_refl _, ?_⟩
  simp only [pk, Bool.and_eq_true, decide_eq_true_eq] at h
  exact h.1
def wL : Nat → Nat
  | 0 => 4 * (160 + 41)
  | d + 1 => 4 * (max 160 (wL d) + 41)
def dL : Nat → Nat
  | 0 => 8
  | d + 1 => dL d + 3
def cL : Nat → Nat
  | 0 => 1 + 4 * 50
  | d + 1 => 1 + 4 * (50 + cL d)
/-- what a clause needs of the deeper ones -/
def wA : Nat → Nat
  | 0 => 160
  | d + 1 => max 160 (wL d)
def dA : Nat → Nat
  | 0 => 5
  | d + 1 => dL d
def cA : Nat → Nat
  | 0 => 50
  | d + 1 => 50 + cL d
theorem cL_le {d : Nat} (h : d ≤ 2) : cL d ≤ 5000 ∧ wL d ≤ 15000 ∧ dL d ≤ 20 ∧ cL d = 1 + 4 * cA d ∧ wL d = 4 * (wA d + 41) ∧ dL d = dA d + 3 ∧ 50 ≤ cA d ∧ 160 ≤ wA d ∧ 5 ≤ dA d := by
  have : d = 0 ∨ d = 1 ∨ d = 2 := by omega
  rcases this with rfl | rfl | rfl <;> decide +kernel
theorem run_layer (H : Gn P) {ls : List Str} (hl : Labels ls) : ∀ (d B : Nat) (S : Sto), d ≤ 2 → Src l B S → B + 10000 * d ≤ 10 ^ 10 → Cl S →
    ∃ v S', callN P (n + d + 8) 42 [.ref l, .lst (stl ls), .int (d : Nat)] S = .ok v S' ∧ (Lv (dL d) (wL d) v ∧ ∃ xs, v = .tup xs) ∧ Src l (B + cL d) S' ∧ Drw l S S' := by
  intro d
  induction d using Nat.strongRecOn with
  | _ d ih =>
    intro B S hd hs hB cl
    obtain ⟨k1, k2, k3, k4, k5, k6, k7, k8, k9⟩ := cL_le hd
    refine w_ex (w_call H.f42 rfl (by decide) ?_)
    subst_eqs
    refine w_for (fun v => [.ref l, .lst (stl ls), .int (d : Int), .ref S.length, v 4, v 5, v 6]) (fun S1 k v S2 => ∃ xs T, S2 = T ++ [.lst xs] ∧ (∀ x ∈ xs, Lv (dA d + 2) (wA d + 40) x) ∧ xs.length = k ∧ Src l (B + 1 + cA d * k) T ∧ Drw l S T) ?_
    subst_eqs
    refine w_drawE H.f25 hs (by omega) (by decide) (by decide) fun m T d0 d1 s1 w1 => ?_
    subst_eqs
    refine ⟨m.toNat, by rw [Int.toNat_of_nonneg d0], by omega, ?_⟩
    rw [rng_len]
    refine ⟨rfl, ⟨[], T, rfl, by simp, rfl, s1.mono (by omega), w1⟩, fun _ _ _ _ _ => rfl, fun k x v S2 hx hJ => ?_, fun v S2 hJ => ?_⟩
    · obtain ⟨xs, T2, rfl, h1, h2, s2, w2⟩ := hJ
      obtain ⟨hk, rfl⟩ := rng_at hx
      have hk5 : k < 5 := by omega
      have hc : cA d * k ≤ cA d * 4 := Nat.mul_le_mul_left _ (by omega)
      have hc2 : cA d * (k + 1) = cA d * k + cA d := by rw [Nat.mul_succ]
      have hll := hs.lt
      refine ⟨_, rfl, ?_⟩
      subst_eqs
      refine w_drawE H.f25 s2 (by omega) (by decide) (by decide) fun c T3 c0 c1 s3 w3 => ?_
      subst_eqs
      -- the clause is put behind
      have fin : ∀ (a : Wv) (T4 : Sto) (C : Nat), Lv (dA d + 1) (wA d + 20) a → Src l C T4 → C ≤ B + 1 + cA d * k + cA d - 3 → Drw l S T4 → (exB P (callN P (n + d + 7)) [.ex (.mut .append (.v 3) [.tup [.fn 41 [.v 0, .v 1], .v 6]])] [.ref l, .lst (stl ls), .int (d : Int), .ref S.length, .int k, .int c, a] (T4 ++ [.lst xs])).post (fun fl S3 => match fl with
        | .nx r' => r' = [.ref l, .lst (stl ls), .int (d : Int), .ref S.length, atE r' 4, atE r' 5, atE r' 6] ∧ ∃ xs T, S3 = T ++ [.lst xs] ∧ (∀ x ∈ xs, Lv (dA d + 2) (wA d + 40) x) ∧ xs.length = k + 1 ∧ Src l (B + 1 + cA d * (k + 1)) T ∧ Drw l S T
        | .ct r' => r' = [.ref l, .lst (stl ls), .int (d : Int), .ref S.length, atE r' 4, atE r' 5, atE r' 6] ∧ ∃ xs T, S3 = T ++ [.lst xs] ∧ (∀ x ∈ xs, Lv (dA d + 2) (wA d + 40) x) ∧ xs.length = k + 1 ∧ Src l (B + 1 + cA d * (k + 1)) T ∧ Drw l S T
        | _ => False) NX := fun a T4 C ha s4 hC w4 => by
        have nu := gd_nu (pk_gd a ha.p)
        subst_eqs
        refine ⟨isBx_last w4.len.symm, ?_⟩
        subst_eqs
        obtain ⟨v, S5, e5, ⟨ns, rfl, hns, hn1, hn2⟩, s5, w5⟩ := run_somelabels (n := n + d + 5) H.f41 H.f25 (s4.app (E := [.lst xs])) (by omega) hl
        obtain ⟨T5, rfl, w6⟩ := w5.app s4.lt
        refine w_eq e5 ?_
        subst_eqs
        refine w_app (w4.trans w6).len.symm (by rw [h2]; exact Nat.lt_of_lt_of_le hk5 (by decide)) ?_
        subst_eqs
        refine ⟨rfl, _, T5, rfl, fun y hy => ?_, by simp [h2], (s5.unapp (by rw [w6.len]; exact s4.lt)).mono (by omega), w4.trans w6⟩
        rcases List.mem_append.mp hy with hy | hy
        · exact h1 y hy
        · rw [List.mem_singleton.mp hy]
          exact (lv_pair (lv_names hl hns hn2) ha).mono (by omega) (by omega)
      have w13 := w2.trans w3
      refine ⟨fun q => ?_, fun q => ?_⟩
      · and_intros
        refine w_goNx ?_
        refine w_mono (fin (.str DROP) T3 _ ((lv_str (by decide +kernel)).mono (by omega) (by omega)) s3 (by omega) w13) fun fl S3 q => ?_
        cases fl <;> first | exact q | exact q.elim
      subst_eqs
      refine ⟨fun q => ?_, fun q => ?_⟩
      · subst_eqs
        obtain ⟨v, S5, e5, ⟨ns, rfl, hns, hn1, hn2⟩, s5, w5⟩ := run_somelabels (n := n + d + 5) H.f41 H.f25 (s3.app (E := [.lst xs])) (by omega) hl
        obtain ⟨T5, rfl, w6⟩ := w5.app s3.lt
        refine w_eq e5 ?_
        and_intros
        refine w_goNx ?_
        refine w_mono (fin (.tup [.str KEEP, .tup (stl ns)]) T5 _ ((lv_pair (lv_str (by decide +kernel)) (lv_names hl hns hn2)).mono (by omega) (by omega)) (s5.unapp (by rw [w6.len]; exact s3.lt)) (by omega) (w13.trans w6)) fun fl S3 q => ?_
        cases fl <;> first | exact q | exact q.elim
      subst_eqs
      refine ⟨fun q => ?_, fun q => ?_⟩
      · subst_eqs
        refine w_drawE H.f25 s3 (by omega) (by decide) (by decide) fun e T4 e0 e1 s4 w4 => ?_
        subst_eqs
        obtain ⟨v, S5, e5, hv, s5, w5⟩ := run_rform (n := n + d + 3) H.f40 H.f25 hl 2 _ (decide (e > 0)) _ (Nat.le_refl _) (s4.app (E := [.lst xs])) (by have : cF 2 = 34 := rfl; omega)
        obtain ⟨T5, rfl, w6⟩ := w5.app s4.lt
        refine w_eq e5 ?_
        have c34 : cF 2 = 34 := rfl
        have wf : wF 2 = 142 := rfl
        have nu := gd_nu (pf_gd v hv.p)
        and_intros
        refine w_goNx ?_
        refine w_mono (fin (.tup [.str RAIS, v]) T5 _ ((lv_pair (lv_str (by decide +kernel)) ⟨pf_pk v hv.p, hv.d, hv.w⟩).mono (by omega) (by omega)) (s5.unapp (by rw [w6.len]; exact s4.lt)) (by omega) ((w13.trans w4).trans w6)) fun fl S3 q => ?_
        cases fl <;> first | exact q | exact q.elim
      subst_eqs
      have back : (exB P (callN P (n + d + 7)) [.ex (.mut .append (.v 3) [.tup [.fn 41 [.v 0, .v 1], .v 6]])] [.ref l, .lst (stl ls), .int (d : Int), .ref S.length, .int k, .int c, .str BACK] (T3 ++ [.lst xs])).post _ NX := fin (.str BACK) T3 _ ((lv_str (by decide +kernel)).mono (by omega) (by omega)) s3 (by omega) w13
      refine ⟨fun q => ?_, fun q => ?_⟩
      · subst_eqs
        refine ⟨fun z => ?_, fun z => ?_⟩
        · subst_eqs
          have z : (d : Int) > 0 := of_decide_eq_true z
          obtain ⟨d', rfl⟩ : ∃ d', d = d' + 1 := ⟨d - 1, by omega⟩
          obtain ⟨v, S5, e5, ⟨hv, ys, rfl⟩, s5, w5⟩ := ih d' (by omega) _ _ (by omega) (s3.app (E := [.lst xs])) (by omega) ((w13.cl cl).push (pk_under (k := _) (.lst xs) (by simp only [pk]; exact pks_iff.mpr fun x hx => (h1 x hx).p)))
          obtain ⟨T5, rfl, w6⟩ := w5.app s3.lt
          have ci : ((d' + 1 : Nat) : Int) - 1 = (d' : Nat) := by omega
          rw [ci]
          refine w_eq e5 ?_
          have ca : cA (d' + 1) = 50 + cL d' := rfl
          have da : dA (d' + 1) = dL d' := rfl
          have wa : wL d' ≤ wA (d' + 1) := Nat.le_max_right _ _
          and_intros
          refine w_goNx ?_
          refine w_mono (fin (.tup [.str PASS, .tup ys]) T5 _ ((lv_pair (lv_str (by decide +kernel)) hv).mono (by omega) (by omega)) (s5.unapp (by rw [w6.len]; exact s3.lt)) (by omega) (w13.trans w6)) fun fl S3 q => ?_
          cases fl <;> first | exact q | exact q.elim
        · and_intros
          refine w_goNx ?_
          refine w_mono back fun fl S3 q => ?_
          cases fl <;> first | exact q | exact q.elim
      · and_intros
        refine w_goNx ?_
        refine w_mono back fun fl S3 q => ?_
        cases fl <;> first | exact q | exact q.elim
    · obtain ⟨xs, T2, rfl, h1, h2, s2, w2⟩ := hJ
      subst_eqs
      refine w_of (tuple_ref (xs := xs) (by rw [← w2.len]; exact get_last)) ?_
      subst_eqs
      refine w_rc w2.len (w2.cl cl) (pk_under _ (by simp only [pk]; exact pks_iff.mpr fun x hx => (h1 x hx).p)) ⟨⟨?_, _, rfl⟩, s2.mono ?_, w2⟩
      · exact (lv_tup (k := 4) h1 (by omega)).mono (by omega) (by omega)
      · have : cA d * xs.length ≤ cA d * 4 := Nat.mul_le_mul_left _ (by omega)
        rw [← h2]
        omega
theorem run_layers (H : Gn P) {ls : List Str} (hl : Labels ls) (hs : Src l B S) (hB : B ≤ 10 ^ 9) (cl : Cl S) {m : Nat} (hm : m ≤ 10) :
    ∃ v S', callN P (n + 11) 49 [.ref l, .lst (stl ls), .int (m : Nat)] S = .ok v S' ∧ (Lv 15 (m * 15001) v ∧ ∃ xs, v = .tup xs) ∧ Src l (B + 60000) S' ∧ Drw l S S' := by
  refine w_ex (w_call H.f49 rfl (by decide) ?_)
  obtain ⟨k1, k2, k3, k4, k5, k6, k7, k8, k9⟩ := cL_le (Nat.le_refl 2)
  have d2 : dL 2 = 14 := by decide +kernel
  subst_eqs
  refine w_lc (fun S1 k ys S2 => (∀ y ∈ ys, Lv 14 15000 y) ∧ ys.length = k ∧ Src l (B + 1 + 5000 * k) S2 ∧ Drw l S S2) ?_
  subst_eqs
  refine w_draw H.f25 hs (by omega) (by omega) (by omega) fun d S1 d0 d1 s1 w1 => ?_
  refine ⟨d.toNat, by rw [Int.toNat_of_nonneg d0], by omega, ?_⟩
  rw [rng_len]
  refine ⟨Nat.le_trans (show d.toNat ≤ 100 by omega) (by decide), ⟨by simp, rfl, s1.mono (by omega), w1⟩, fun _ _ _ _ _ => rfl, fun k x ys S2 hx hJ => ?_, fun ys S2 hJ => ?_⟩
  · obtain ⟨h1, h2, s2, w2⟩ := hJ
    obtain ⟨hk, rfl⟩ := rng_at hx
    refine ⟨_, rfl, ?_⟩
    subst_eqs
    obtain ⟨v, S5, e5, ⟨hv, zs, rfl⟩, s5, w5⟩ := run_layer (n := n) H hl 2 _ _ (Nat.le_refl _) s2 (by omega) (w2.cl cl)
    refine w_eq e5 ⟨fun y hy => ?_, by simp [h2], s5.mono (by omega), w2.trans w5⟩
    rcases List.mem_append.mp hy with hy | hy
    · exact h1 y hy
    · rw [List.mem_singleton.mp hy]
      exact hv.mono (by omega) (by omega)
  · obtain ⟨h1, h2, s2, w2⟩ := hJ
    refine w_newf (by rw [h2]; exact Nat.le_trans (show d.toNat ≤ 100 by omega) (by decide)) ?_
    refine w_of tuple_lst ?_
    subst_eqs
    refine w_rs (by rw [w2.len]; exact Nat.le_refl _) ⟨⟨lv_tup (k := m) h1 (by omega), _, rfl⟩, s2.mono (by omega), w2⟩
end Pe

set_option Elab.async false
set_option linter.all false
set_option maxRecDepth 100000
set_option maxHeartbeats 4000000
/-! Runs: stacks bent. -/
namespace Pe
open PySem L2
local macro_rules | `(tactic| subst_eqs) => `(tactic| (repeat (first | ((with_reducible refine w_vx ?_); refine ⟨_, rfl, ?_, ?_⟩; (· (first | assumption | (intro hh; cases hh; done) | (apply gd_nu; assumption)))) | (with_reducible refine w_k ?_) | (with_reducible refine w_cons ?_) | (with_reducible refine w_nil ?_) | (with_reducible refine w_fn ?_) | (with_reducible refine w_bin ?_) | (with_reducible refine w_cmp ?_) | (with_reducible refine w_tup ?_) | (with_reducible refine w_idx ?_) | (with_reducible refine w_onB ?_) | (with_reducible refine w_exp ?_) | (with_reducible refine w_ret ?_) | (with_reducible refine w_end ?_) | (with_reducible refine w_goNx ?_) | (with_reducible refine w_goRt ?_) | (with_reducible refine w_nx ?_) | (with_reducible refine w_if ?_) | (with_reducible refine w_seti ?_) | (with_reducible refine w_seta ?_) | (with_reducible refine w_slc ?_) | (with_reducible refine w_on ?_) | (with_reducible refine w_os ?_) | (with_reducible refine w_p1 ?_) | (with_reducible refine w_p2 ?_) | (with_reducible refine w_dspf ?_) | (with_reducible refine w_dspt ?_) | (with_reducible refine w_mut ?_) | (with_reducible refine w_isi ?_) | (with_reducible refine w_not ?_) | (with_reducible refine w_and_ ?_) | (with_reducible refine w_or_ ?_) | (with_reducible refine w_all0 ?_) | (with_reducible refine w_any0 ?_) | (with_reducible refine w_all ?_) | (with_reducible refine w_any ?_) | (with_reducible refine w_cmp2 ?_) | (with_reducible refine w_ite ?_) | (with_reducible refine w_frz ?_) | (with_reducible refine w_att ?_) | (with_reducible refine w_mth ?_) | (with_reducible refine w_lst ?_) | (with_reducible refine w_srt ?_) | (with_reducible refine w_fnk ?_) | (with_reducible refine w_stp ?_) | (with_reducible refine w_rng ?_) | (with_reducible refine w_enm ?_) | (with_reducible refine w_iter ?_) | (with_reducible refine w_of slT_lo ?_) | (with_reducible refine w_of slT_hi ?_) | (with_reducible refine w_of slT_lo1 ?_) | (with_reducible refine w_of slT_hi1 ?_) | (with_reducible refine w_of lst_tup ?_) | (with_reducible refine w_of idx0 ?_) | (with_reducible refine w_of idx1 ?_) | (with_reducible refine w_of eq_str ?_) | (with_reducible refine w_of len_tup ?_) | (with_reducible refine w_of add_ok ?_) | (with_reducible refine w_of subi_ok ?_) | (with_reducible refine w_of cmp_int_eq ?_) | (with_reducible refine w_of cmp_int_ne ?_) | (with_reducible refine w_of cmp_int_lt ?_) | (with_reducible refine w_of cmp_int_le ?_) | (with_reducible refine w_of cmp_int_gt ?_) | (with_reducible refine w_of cmp_int_ge ?_) | (with_reducible refine w_of q_po ?_) | ((with_reducible refine w_len ?_ ?_); (· exact of_decide_eq_true rfl)) | ((with_reducible refine w_asg1 ?_ ?_); (· exact of_decide_eq_true rfl)) | ((with_reducible refine w_par ⟨?_, ?_⟩ ?_); (· exact of_decide_eq_true rfl); (· exact of_decide_eq_true rfl)) | ((with_reducible refine w_newf ?_ ?_); (· exact of_decide_eq_true rfl)) | ((with_reducible refine w_newt ?_ ?_); (· exact of_decide_eq_true rfl)) | ((with_reducible refine w_of (add_lst ?_) ?_); (· exact of_decide_eq_true rfl)) | ((with_reducible refine w_of (add_tup ?_) ?_); (· exact of_decide_eq_true rfl)) | ((with_reducible refine w_tt ?_ ?_); (· rfl)) | ((with_reducible refine w_ff ?_ ?_); (· rfl)) | ((with_reducible refine w_tt2 ?_ ?_); (· rfl)) | ((with_reducible refine w_ff2 ?_ ?_); (· rfl)) | ((with_reducible refine w_rs ?_ ?_); (· exact Nat.le_refl _)))))
local macro_rules | `(tactic| and_intros) => `(tactic| (repeat (first | ((with_reducible refine w_vx ?_); refine ⟨_, rfl, ?_, ?_⟩; (· (first | assumption | (intro hh; cases hh; done) | (apply gd_nu; assumption)))) | (with_reducible refine w_k ?_) | (with_reducible refine w_cons ?_) | (with_reducible refine w_nil ?_) | (with_reducible refine w_fn ?_) | (with_reducible refine w_bin ?_) | (with_reducible refine w_cmp ?_) | (with_reducible refine w_tup ?_) | (with_reducible refine w_idx ?_) | (with_reducible refine w_onB ?_) | (with_reducible refine w_exp ?_) | (with_reducible refine w_ret ?_) | (with_reducible refine w_end ?_) | (with_reducible refine w_goNx (w_end ?_)) | (with_reducible refine w_goRt ?_) | (with_reducible refine w_nx ?_) | (with_reducible refine w_if ?_) | (with_reducible refine w_seti ?_) | (with_reducible refine w_seta ?_) | (with_reducible refine w_slc ?_) | (with_reducible refine w_on ?_) | (with_reducible refine w_os ?_) | (with_reducible refine w_p1 ?_) | (with_reducible refine w_p2 ?_) | (with_reducible refine w_dspf ?_) | (with_reducible refine w_dspt ?_) | (with_reducible refine w_mut ?_) | (with_reducible refine w_isi ?_) | (with_reducible refine w_not ?_) | (with_reducible refine w_and_ ?_) | (with_reducible refine w_or_ ?_) | (with_reducible refine w_all0 ?_) | (with_reducible refine w_any0 ?_) | (with_reducible refine w_all ?_) | (with_reducible refine w_any ?_) | (with_reducible refine w_cmp2 ?_) | (with_reducible refine w_ite ?_) | (with_reducible refine w_frz ?_) | (with_reducible refine w_att ?_) | (with_reducible refine w_mth ?_) | (with_reducible refine w_lst ?_) | (with_reducible refine w_srt ?_) | (with_reducible refine w_fnk ?_) | (with_reducible refine w_stp ?_) | (with_reducible refine w_rng ?_) | (with_reducible refine w_enm ?_) | (with_reducible refine w_iter ?_) | (with_reducible refine w_of slT_lo ?_) | (with_reducible refine w_of slT_hi ?_) | (with_reducible refine w_of slT_lo1 ?_) | (with_reducible refine w_of slT_hi1 ?_) | (with_reducible refine w_of lst_tup ?_) | (with_reducible refine w_of idx0 ?_) | (with_reducible refine w_of idx1 ?_) | (with_reducible refine w_of eq_str ?_) | (with_reducible refine w_of len_tup ?_) | (with_reducible refine w_of add_ok ?_) | (with_reducible refine w_of subi_ok ?_) | (with_reducible refine w_of cmp_int_eq ?_) | (with_reducible refine w_of cmp_int_ne ?_) | (with_reducible refine w_of cmp_int_lt ?_) | (with_reducible refine w_of cmp_int_le ?_) | (with_reducible refine w_of cmp_int_gt ?_) | (with_reducible refine w_of cmp_int_ge ?_) | (with_reducible refine w_of q_po ?_) | ((with_reducible refine w_len ?_ ?_); (· exact of_decide_eq_true rfl)) | ((with_reducible refine w_asg1 ?_ ?_); (· exact of_decide_eq_true rfl)) | ((with_reducible refine w_par ⟨?_, ?_⟩ ?_); (· exact of_decide_eq_true rfl); (· exact of_decide_eq_true rfl)) | ((with_reducible refine w_newf ?_ ?_); (· exact of_decide_eq_true rfl)) | ((with_reducible refine w_newt ?_ ?_); (· exact of_decide_eq_true rfl)) | ((with_reducible refine w_of (add_lst ?_) ?_); (· exact of_decide_eq_true rfl)) | ((with_reducible refine w_of (add_tup ?_) ?_); (· exact of_decide_eq_true rfl)) | ((with_reducible refine w_tt ?_ ?_); (· rfl)) | ((with_reducible refine w_ff ?_ ?_); (· rfl)) | ((with_reducible refine w_tt2 ?_ ?_); (· rfl)) | ((with_reducible refine w_ff2 ?_ ?_); (· rfl)) | ((with_reducible refine w_rs ?_ ?_); (· exact Nat.le_refl _)))))
variable {P : Pg} {n l B : Nat} {S T E : Sto} {X : Xq} {Q : Wv → Sto → Prop}
def fd_law_any_v2 : Fd := ⟨1, 2, false, [.asg (.nm 1) (.dsp true [.k (.non), .k (.bl true), .k (.int 0), .k (.str ""), .k (.str "*"), .k (.str "drop"), .k (.str "back"), .k (.str "keep"), .k (.str "raise"), .k (.str "pass"), .k (.str "a"), .tup [], .dsp false [], .tup [.tup []], .tup [.k (.str "drop")]]), .ex (.mut .append (.v 1) [.tup [.k (.str "keep"), .tup []]]), .asg (.nm 1) (.bin .add (.v 1) (.dsp false [.tup [.k (.str "raise"), .tup [.k (.str ""), .tup [.k (.str "*"), .k (.str "*")]]], .tup [.k (.str "pass"), .tup []], .tup [.k (.str "pass"), .k (.non)], .tup [.k (.str "raise"), .k (.str "*")], .tup [.k (.str "Drop"), .k (.str "*")], .tup [.k (.str "raise")]])), .ret (.idx (.v 1) (.fn 25 [.v 0, .k (.int 22)]))]⟩
def fd_law_bent_v2 : Fd := ⟨2, 6, false, [.ite (.and [.isi (.v 1) [.tuple], .cmp .ne (.v 1) (.tup []), .cmp .gt (.fn 25 [.v 0, .k (.int 7)]) (.k (.int 0))]) [.asg (.nm 4) (.fn 25 [.v 0, .p1 .len (.v 1)]), .ret (.bin .add (.bin .add (.slc (.v 1) none (some (.v 4))) (.tup [.fn 32 [.v 0, .idx (.v 1) (.v 4)]])) (.slc (.v 1) (some (.bin .add (.v 4) (.k (.int 1)))) none))] [], .par 2 3 (.fn 31 [.v 0]) (.fn 25 [.v 0, .k (.int 7)]), .ite (.and [.isi (.v 1) [.tuple], .cmp .lt (.v 3) (.k (.int 5))]) [.asg (.nm 4) (.fn 25 [.v 0, .bin .add (.p1 .len (.v 1)) (.k (.int 1))]), .asg (.nm 5) (.dsp false [.lst false (.v 1), .bin .add (.slc (.v 1) none (some (.v 4))) (.slc (.v 1) (some (.bin .add (.v 4) (.k (.int 1)))) none), .bin .add (.bin .add (.slc (.v 1) none (some (.v 4))) (.tup [.v 2])) (.slc (.v 1) (some (.v 4)) none), .rev false (.v 1)]), .ret (.idx (.bin .add (.v 5) (.dsp false [.bin .add (.slc (.v 1) none (some (.bin .add (.v 4) (.k (.int 1))))) (.slc (.v 1) (some (.v 4)) none)])) (.v 3))] [], .ret (.v 2)]⟩
def anyA2 : List Wv := [.non, .bl true, .int 0, .str "", .str "*", .str "drop", .str "back", .str "keep", .str "raise", .str "pass", .str "a", .tup [], .lst [], .tup [.tup []], .tup [.str "drop"], .tup [.str "keep", .tup []]]
def anyB2 : List Wv := [.tup [.str "raise", .tup [.str "", .tup [.str "*", .str "*"]]], .tup [.str "pass", .tup []], .tup [.str "pass", .non], .tup [.str "raise", .str "*"], .tup [.str "Drop", .str "*"], .tup [.str "raise"]]
theorem any_all2 : ∀ x ∈ anyA2 ++ anyB2, pk x = true ∧ dep x ≤ 4 ∧ wei x ≤ 400 := by
  have h : ((anyA2 ++ anyB2).all fun x => pk x && decide (dep x ≤ 4) && decide (wei x ≤ 400)) = true := by decide +kernel
  intro x hx
  have := List.all_eq_true.mp h x hx
  simp only [Bool.and_eq_true, decide_eq_true_eq] at this
  exact ⟨this.1.1, this.1.2, this.2⟩
theorem add_ref {q : Nat} {xs ys : List Wv} (h : S[q]? = some (.lst xs)) (hl : xs.length + ys.length ≤ 1000000) : binW .add S (.ref q) (.lst ys) = some (.lst (xs ++ ys)) := by
  have hv : view S (.ref q) = .lst xs := by simp [h]
  unfold binW
  rw [hv]
  exact add_lst (S := S) hl
theorem run_any2 (h : P.fn 31 = some fd_law_any_v2) (hd : P.fn 25 = some fd_law_draw_v0) (hs : Src l B S) (hB : B ≤ 10 ^ 10) (cl : Cl S) :
    ∃ (v : Wv) (S' : Sto), callN P (n + 2) 31 [.ref l] S = .ok v S' ∧ Lv 4 400 v ∧ Src l (B + 1) S' ∧ Drw l S S' := by
  refine w_ex (w_call h rfl (by decide) ?_)
  subst_eqs
  refine ⟨isBx_last rfl, ?_⟩
  subst_eqs
  refine w_app rfl (by decide) ?_
  subst_eqs
  refine w_of (add_ref get_last (by decide)) ?_
  subst_eqs
  refine w_drawE hd hs (by omega) (by decide) (by decide) fun d S1 d0 d1 s1 w1 => ?_
  have hj : d.toNat < (anyA2 ++ anyB2).length := by show d.toNat < 22; omega
  refine w_of (idx_lst (xs := anyA2 ++ anyB2) (k := d) (j := d.toNat) (by omega) (List.getElem?_eq_getElem hj)) ?_
  obtain ⟨p1, p2, p3⟩ := any_all2 _ (List.getElem_mem hj)
  refine w_rc w1.len (w1.cl cl) (pk_under _ p1) ⟨⟨p1, p2, p3⟩, s1, w1⟩
structure Rk (v r : Wv) : Prop where
  p : pk r = true
  d : dep r ≤ dep v + 5
  w : wei r ≤ 2 * wei v + 500
theorem w_revt {a : C} {F : Fo} {r : Ev} (h : (ev P F a r S).post (fun x S1 => ∃ xs, x = .tup xs ∧ Q (.tup xs.reverse) S1) X) : (ev P F (.rev false a) r S).post Q X := by
  rw [ev]; exact w_bind (w_mono h fun x S1 ⟨xs, e, q⟩ => by subst e; exact q)
theorem rk_tup {xs ys : List Wv} (hx : pks xs = true) (hy : ∀ y ∈ ys, pk y = true ∧ dep y ≤ deps xs + 5) (hw : weis ys ≤ 2 * weis xs + 500) : Rk (.tup xs) (.tup ys) :=
  ⟨by simp only [pk]; exact pks_iff.mpr fun y h => (hy y h).1, by simp only [dep]; have := deps_le (n := deps xs + 5) (xs := ys) |>.mpr fun y h => (hy y h).2; omega, by simpa [wei] using hw⟩
/-- parts of a list -/
theorem rk_in {xs : List Wv} (hx : pks xs = true) : ∀ y ∈ xs, pk y = true ∧ dep y ≤ deps xs + 5 := fun y h => ⟨pks_iff.mp hx y h, by have := deps_le (n := deps xs) (xs := xs) |>.mp (Nat.le_refl _) y h; omega⟩
theorem weis_at {xs : List Wv} {a : Nat} (h : a < xs.length) : weis (xs.take a) + (wei xs[a] + 1) + weis (xs.drop (a + 1)) = weis xs := by
  have e : xs.drop a = xs[a] :: xs.drop (a + 1) := List.drop_eq_getElem_cons h
  have := weis_take a xs
  rw [e] at this
  simp only [weis] at this
  omega
theorem weis_take1 {xs : List Wv} {a : Nat} (h : a < xs.length) : weis (xs.take (a + 1)) = weis (xs.take a) + (wei xs[a] + 1) := by
  have e : xs.take (a + 1) = xs.take a ++ [xs[a]] := by rw [List.take_add_one, List.getElem?_eq_getElem h]; rfl
  rw [e, weis_app]
  simp [weis]
theorem idx_tupN {xs : List Wv} {a : Nat} (h : a < xs.length) : idxW S (.tup xs) (.int (a : Int)) = some xs[a] := idx_tup rfl (List.getElem?_eq_getElem h)
theorem run_bent2 (f32 : P.fn 32 = some fd_law_bent_v2) (f31 : P.fn 31 = some fd_law_any_v2) (hd : P.fn 25 = some fd_law_draw_v0) : ∀ (m : Nat) (v : Wv) (B : Nat) (S : Sto), pk v = true → dep v ≤ m → wei v ≤ 500000 → Src l B S → B + 5 * (m + 1) ≤ 10 ^ 8 → Cl S →
    ∃ r S', callN P (n + m + 4) 32 [.ref l, v] S = .ok r S' ∧ Rk v r ∧ Src l (B + 5 * (m + 1)) S' ∧ Drw l S S' := by
  intro m
  induction m using Nat.strongRecOn with
  | _ m ih =>
    intro v B S hv hm hw hs hB cl
    have gv := pk_gd v hv
    refine w_ex (w_call (n := n + m + 3) f32 rfl (by decide) ?_)
    -- the flat way
    have flat : ∀ (S1 : Sto), Drw l S S1 → Src l (B + 1) S1 → (exB P (callN P (n + m + 3)) [.par 2 3 (.fn 31 [.v 0]) (.fn 25 [.v 0, .k (.int 7)]), .ite (.and [.isi (.v 1) [.tuple], .cmp .lt (.v 3) (.k (.int 5))]) [.asg (.nm 4) (.fn 25 [.v 0, .bin .add (.p1 .len (.v 1)) (.k (.int 1))]), .asg (.nm 5) (.dsp false [.lst false (.v 1), .bin .add (.slc (.v 1) none (some (.v 4))) (.slc (.v 1) (some (.bin .add (.v 4) (.k (.int 1)))) none), .bin .add (.bin .add (.slc (.v 1) none (some (.v 4))) (.tup [.v 2])) (.slc (.v 1) (some (.v 4)) none), .rev false (.v 1)]), .ret (.idx (.bin .add (.v 5) (.dsp false [.bin .add (.slc (.v 1) none (some (.bin .add (.v 4) (.k (.int 1))))) (.slc (.v 1) (some (.v 4)) none)])) (.v 3))] [], .ret (.v 2)] [.ref l, v, .unb, .unb, .unb, .unb] S1).post (endC S.length fun r S' => Rk v r ∧ Src l (B + 5 * (m + 1)) S' ∧ Drw l S S') NX := fun S1 w1 s1 => by
      subst_eqs
      obtain ⟨o, S2, e2, lo, s2, w2⟩ := run_any2 (n := n + m + 1) f31 hd s1 (by omega) (w1.cl cl)
      refine w_eq e2 ?_
      have nuo := gd_nu (pk_gd o lo.p)
      subst_eqs
      refine w_draw hd s2 (by omega) (by decide) (by decide) fun c S3 c0 c1 s3 w3 => ?_
      have w13 := (w1.trans w2).trans w3
      subst_eqs
      refine w_of (isi_tup gv) ?_
      subst_eqs
      cases hT : isTup v with
      | false =>
        subst_eqs
        refine w_rs (Nat.le_of_eq w13.len) ⟨⟨lo.p, by have := lo.d; omega, by have := lo.w; omega⟩, s3.mono (by omega), w13⟩
      | true =>
        obtain ⟨xs, rfl⟩ : ∃ xs, v = .tup xs := by cases v <;> first | exact ⟨_, rfl⟩ | cases hT
        have hlx := len_weis xs
        have hp : pks xs = true := by simpa [pk] using hv
        simp only [wei] at hw
        subst_eqs
        refine ⟨fun q => ?_, fun q => ?_⟩
        · subst_eqs
          refine w_draw hd s3 (by omega) (by omega) (by omega) fun a S4 a0 a1 s4 w4 => ?_
          obtain ⟨a, rfl⟩ : ∃ k : Nat, a = (k : Int) := ⟨a.toNat, by omega⟩
          subst_eqs
          refine w_newf (Nat.le_trans hlx (Nat.le_trans hw (by decide))) ?_
          subst_eqs
          refine w_of (add_tup (by simp only [List.length_append, List.length_take, List.length_drop]; omega)) ?_
          subst_eqs
          refine w_of (add_tup (by simp only [List.length_append, List.length_take, List.length_drop, List.length_cons, List.length_nil]; omega)) ?_
          subst_eqs
          refine w_of (add_tup (by simp only [List.length_append, List.length_take, List.length_drop, List.length_cons, List.length_nil]; omega)) ?_
          subst_eqs
          refine w_revt ?_
          subst_eqs
          refine ⟨xs, rfl, ?_⟩
          subst_eqs
          refine w_of (add_tup (by simp only [List.length_append, List.length_take, List.length_drop, List.length_cons, List.length_nil]; omega)) ?_
          subst_eqs
          have q := of_decide_eq_true q
          obtain ⟨r, er, hr⟩ := pick_in (S := S4) (xs := [.lst xs, .tup (xs.take a ++ xs.drop (a + 1)), .tup (xs.take a ++ [o] ++ xs.drop a), .tup xs.reverse, .tup (xs.take (a + 1) ++ xs.drop a)]) (d := c) c0 (by show c < 5; omega)
          refine w_of er ?_
          have ht := weis_take a xs
          have ht1 := weis_take (a + 1) xs
          have hx := rk_in hp
          have wz : weis (xs.take a ++ xs.drop (a + 1)) ≤ 2 * weis xs + 500 := by
            rw [weis_app]
            by_cases z : a < xs.length
            · have := weis_at z
              omega
            · rw [List.drop_eq_nil_of_le (by omega)]
              simp only [weis]
              omega
          refine w_goRt (w_rs (Nat.le_of_eq (w13.trans w4).len) ?_)
          refine ⟨?_, s4.mono (by omega), w13.trans w4⟩
          simp only [List.mem_cons, List.not_mem_nil, or_false] at hr
          have inT : ∀ {y k}, y ∈ xs.take k → pk y = true ∧ dep y ≤ deps xs + 5 := fun h => hx _ (List.mem_of_mem_take h)
          have inD : ∀ {y k}, y ∈ xs.drop k → pk y = true ∧ dep y ≤ deps xs + 5 := fun h => hx _ (List.mem_of_mem_drop h)
          rcases hr with rfl | rfl | rfl | rfl | rfl
          · exact ⟨hv, by simp [dep], by simp only [wei]; omega⟩
          · refine rk_tup hp (fun y hy => ?_) wz
            rcases List.mem_append.mp hy with hy | hy
            · exact inT hy
            · exact inD hy
          · refine rk_tup hp (fun y hy => ?_) (by rw [weis_app, weis_app]; have := lo.w; simp only [weis]; omega)
            rcases List.mem_append.mp hy with hy | hy
            · rcases List.mem_append.mp hy with hy | hy
              · exact inT hy
              · rw [List.mem_singleton.mp hy]; exact ⟨lo.p, by have := lo.d; omega⟩
            · exact inD hy
          · exact rk_tup hp (fun y hy => hx y (List.mem_reverse.mp hy)) (by rw [weis_rev]; omega)
          · refine rk_tup hp (fun y hy => ?_) (by rw [weis_app]; omega)
            rcases List.mem_append.mp hy with hy | hy
            · exact inT hy
            · exact inD hy
        · subst_eqs
          refine w_rs (Nat.le_of_eq w13.len) ⟨⟨lo.p, by have := lo.d; omega, by have := lo.w; omega⟩, s3.mono (by omega), w13⟩
    subst_eqs
    refine w_of (isi_tup gv) ?_
    subst_eqs
    cases hT : isTup v with
    | false =>
      and_intros
      refine w_goNx ?_
      exact flat S .rfl' (hs.mono (by omega))
    | true =>
      obtain ⟨xs, rfl⟩ : ∃ xs, v = .tup xs := by cases v <;> first | exact ⟨_, rfl⟩ | cases hT
      have hlx := len_weis xs
      have hp : pks xs = true := by simpa [pk] using hv
      subst_eqs
      refine w_of (ne_nil (by simpa [gd] using gv)) ?_
      subst_eqs
      refine ⟨fun q => ?_, fun q => ?_⟩
      · subst_eqs
        refine w_draw hd hs (by omega) (by decide) (by decide) fun c S1 c0 c1 s1 w1 => ?_
        subst_eqs
        refine ⟨fun q2 => ?_, fun q2 => ?_⟩
        · have l0 : 0 < xs.length := by
            cases xs with
            | nil => cases q
            | cons x xs => exact Nat.succ_pos _
          simp only [wei] at hw
          subst_eqs
          refine w_draw hd s1 (by omega) (by omega) (by omega) fun a S4 a0 a1 s4 w4 => ?_
          obtain ⟨a, rfl⟩ : ∃ k : Nat, a = (k : Int) := ⟨a.toNat, by omega⟩
          have ha : a < xs.length := by omega
          subst_eqs
          refine w_of (idx_tupN ha) ?_
          subst_eqs
          have hx := rk_in hp
          have ha2 := weis_at ha
          have da := deps_le (n := deps xs) (xs := xs) |>.mp (Nat.le_refl _) _ (List.getElem_mem ha)
          simp only [dep] at hm
          obtain ⟨j, rfl⟩ : ∃ j, m = j + 1 := ⟨m - 1, by omega⟩
          obtain ⟨r, S5, e5, rk, s5, w5⟩ := ih j (by omega) xs[a] _ _ (pks_iff.mp hp _ (List.getElem_mem ha)) (by omega) (by omega) s4 (by omega) ((w1.trans w4).cl cl)
          rw [show n + (j + 1) + 3 = n + j + 4 by omega]
          refine w_eq e5 ?_
          have nur := gd_nu (pk_gd r rk.p)
          subst_eqs
          refine w_of (add_tup (by simp only [List.length_append, List.length_take, List.length_drop, List.length_cons, List.length_nil]; omega)) ?_
          subst_eqs
          refine w_of (add_tup (by simp only [List.length_append, List.length_take, List.length_drop, List.length_cons, List.length_nil]; omega)) ?_
          have ww := (w1.trans w4).trans w5
          refine w_goRt (w_rs (Nat.le_of_eq ww.len) ?_)
          refine ⟨?_, s5.mono (by omega), ww⟩
          refine rk_tup hp (fun y hy => ?_) (by rw [weis_app, weis_app]; have := rk.w; simp only [weis]; omega)
          rcases List.mem_append.mp hy with hy | hy
          · rcases List.mem_append.mp hy with hy | hy
            · exact hx _ (List.mem_of_mem_take hy)
            · rw [List.mem_singleton.mp hy]; exact ⟨rk.p, by have := rk.d; omega⟩
          · exact hx _ (List.mem_of_mem_drop hy)
        · and_intros
          refine w_goNx ?_
          exact flat S1 w1 s1
      · and_intros
        refine w_goNx ?_
        exact flat S .rfl' (hs.mono (by omega))
end Pe

set_option Elab.async false
set_option linter.all false
set_option maxRecDepth 100000
set_option maxHeartbeats 2000000
/-! The law of stacks: its run. -/
namespace Pe
open PySem L2
local macro_rules | `(tactic| subst_eqs) => `(tactic| (repeat (first | ((with_reducible refine w_vx ?_); refine ⟨_, rfl, ?_, ?_⟩; (· (first | assumption | (intro hh; cases hh; done) | (apply gd_nu; assumption)))) | (with_reducible refine w_k ?_) | (with_reducible refine w_cons ?_) | (with_reducible refine w_nil ?_) | (with_reducible refine w_fn ?_) | (with_reducible refine w_bin ?_) | (with_reducible refine w_cmp ?_) | (with_reducible refine w_tup ?_) | (with_reducible refine w_idx ?_) | (with_reducible refine w_onB ?_) | (with_reducible refine w_exp ?_) | (with_reducible refine w_ret ?_) | (with_reducible refine w_end ?_) | (with_reducible refine w_goNx ?_) | (with_reducible refine w_goRt ?_) | (with_reducible refine w_nx ?_) | (with_reducible refine w_if ?_) | (with_reducible refine w_seti ?_) | (with_reducible refine w_seta ?_) | (with_reducible refine w_slc ?_) | (with_reducible refine w_on ?_) | (with_reducible refine w_os ?_) | (with_reducible refine w_p1 ?_) | (with_reducible refine w_p2 ?_) | (with_reducible refine w_dspf ?_) | (with_reducible refine w_dspt ?_) | (with_reducible refine w_mut ?_) | (with_reducible refine w_isi ?_) | (with_reducible refine w_not ?_) | (with_reducible refine w_and_ ?_) | (with_reducible refine w_or_ ?_) | (with_reducible refine w_all0 ?_) | (with_reducible refine w_any0 ?_) | (with_reducible refine w_all ?_) | (with_reducible refine w_any ?_) | (with_reducible refine w_cmp2 ?_) | (with_reducible refine w_ite ?_) | (with_reducible refine w_frz ?_) | (with_reducible refine w_att ?_) | (with_reducible refine w_mth ?_) | (with_reducible refine w_lst ?_) | (with_reducible refine w_srt ?_) | (with_reducible refine w_fnk ?_) | (with_reducible refine w_stp ?_) | (with_reducible refine w_rng ?_) | (with_reducible refine w_enm ?_) | (with_reducible refine w_iter ?_) | (with_reducible refine w_of slT_lo ?_) | (with_reducible refine w_of slT_hi ?_) | (with_reducible refine w_of slT_lo1 ?_) | (with_reducible refine w_of slT_hi1 ?_) | (with_reducible refine w_of lst_tup ?_) | (with_reducible refine w_of idx0 ?_) | (with_reducible refine w_of idx1 ?_) | (with_reducible refine w_of eq_str ?_) | (with_reducible refine w_of len_tup ?_) | (with_reducible refine w_of add_ok ?_) | (with_reducible refine w_of subi_ok ?_) | (with_reducible refine w_of cmp_int_eq ?_) | (with_reducible refine w_of cmp_int_ne ?_) | (with_reducible refine w_of cmp_int_lt ?_) | (with_reducible refine w_of cmp_int_le ?_) | (with_reducible refine w_of cmp_int_gt ?_) | (with_reducible refine w_of cmp_int_ge ?_) | (with_reducible refine w_of q_po ?_) | ((with_reducible refine w_len ?_ ?_); (· exact of_decide_eq_true rfl)) | ((with_reducible refine w_asg1 ?_ ?_); (· exact of_decide_eq_true rfl)) | ((with_reducible refine w_par ⟨?_, ?_⟩ ?_); (· exact of_decide_eq_true rfl); (· exact of_decide_eq_true rfl)) | ((with_reducible refine w_newf ?_ ?_); (· exact of_decide_eq_true rfl)) | ((with_reducible refine w_newt ?_ ?_); (· exact of_decide_eq_true rfl)) | ((with_reducible refine w_of (add_lst ?_) ?_); (· exact of_decide_eq_true rfl)) | ((with_reducible refine w_of (add_tup ?_) ?_); (· exact of_decide_eq_true rfl)) | ((with_reducible refine w_tt ?_ ?_); (· rfl)) | ((with_reducible refine w_ff ?_ ?_); (· rfl)) | ((with_reducible refine w_tt2 ?_ ?_); (· rfl)) | ((with_reducible refine w_ff2 ?_ ?_); (· rfl)) | ((with_reducible refine w_rs ?_ ?_); (· exact Nat.le_refl _)))))
local macro_rules | `(tactic| and_intros) => `(tactic| (repeat (first | ((with_reducible refine w_vx ?_); refine ⟨_, rfl, ?_, ?_⟩; (· (first | assumption | (intro hh; cases hh; done) | (apply gd_nu; assumption)))) | (with_reducible refine w_k ?_) | (with_reducible refine w_cons ?_) | (with_reducible refine w_nil ?_) | (with_reducible refine w_fn ?_) | (with_reducible refine w_bin ?_) | (with_reducible refine w_cmp ?_) | (with_reducible refine w_tup ?_) | (with_reducible refine w_idx ?_) | (with_reducible refine w_onB ?_) | (with_reducible refine w_exp ?_) | (with_reducible refine w_ret ?_) | (with_reducible refine w_end ?_) | (with_reducible refine w_goNx (w_end ?_)) | (with_reducible refine w_goRt ?_) | (with_reducible refine w_nx ?_) | (with_reducible refine w_if ?_) | (with_reducible refine w_seti ?_) | (with_reducible refine w_seta ?_) | (with_reducible refine w_slc ?_) | (with_reducible refine w_on ?_) | (with_reducible refine w_os ?_) | (with_reducible refine w_p1 ?_) | (with_reducible refine w_p2 ?_) | (with_reducible refine w_dspf ?_) | (with_reducible refine w_dspt ?_) | (with_reducible refine w_mut ?_) | (with_reducible refine w_isi ?_) | (with_reducible refine w_not ?_) | (with_reducible refine w_and_ ?_) | (with_reducible refine w_or_ ?_) | (with_reducible refine w_all0 ?_) | (with_reducible refine w_any0 ?_) | (with_reducible refine w_all ?_) | (with_reducible refine w_any ?_) | (with_reducible refine w_cmp2 ?_) | (with_reducible refine w_ite ?_) | (with_reducible refine w_frz ?_) | (with_reducible refine w_att ?_) | (with_reducible refine w_mth ?_) | (with_reducible refine w_lst ?_) | (with_reducible refine w_srt ?_) | (with_reducible refine w_fnk ?_) | (with_reducible refine w_stp ?_) | (with_reducible refine w_rng ?_) | (with_reducible refine w_enm ?_) | (with_reducible refine w_iter ?_) | (with_reducible refine w_of slT_lo ?_) | (with_reducible refine w_of slT_hi ?_) | (with_reducible refine w_of slT_lo1 ?_) | (with_reducible refine w_of slT_hi1 ?_) | (with_reducible refine w_of lst_tup ?_) | (with_reducible refine w_of idx0 ?_) | (with_reducible refine w_of idx1 ?_) | (with_reducible refine w_of eq_str ?_) | (with_reducible refine w_of len_tup ?_) | (with_reducible refine w_of add_ok ?_) | (with_reducible refine w_of subi_ok ?_) | (with_reducible refine w_of cmp_int_eq ?_) | (with_reducible refine w_of cmp_int_ne ?_) | (with_reducible refine w_of cmp_int_lt ?_) | (with_reducible refine w_of cmp_int_le ?_) | (with_reducible refine w_of cmp_int_gt ?_) | (with_reducible refine w_of cmp_int_ge ?_) | (with_reducible refine w_of q_po ?_) | ((with_reducible refine w_len ?_ ?_); (· exact of_decide_eq_true rfl)) | ((with_reducible refine w_asg1 ?_ ?_); (· exact of_decide_eq_true rfl)) | ((with_reducible refine w_par ⟨?_, ?_⟩ ?_); (· exact of_decide_eq_true rfl); (· exact of_decide_eq_true rfl)) | ((with_reducible refine w_newf ?_ ?_); (· exact of_decide_eq_true rfl)) | ((with_reducible refine w_newt ?_ ?_); (· exact of_decide_eq_true rfl)) | ((with_reducible refine w_of (add_lst ?_) ?_); (· exact of_decide_eq_true rfl)) | ((with_reducible refine w_of (add_tup ?_) ?_); (· exact of_decide_eq_true rfl)) | ((with_reducible refine w_tt ?_ ?_); (· rfl)) | ((with_reducible refine w_ff ?_ ?_); (· rfl)) | ((with_reducible refine w_tt2 ?_ ?_); (· rfl)) | ((with_reducible refine w_ff2 ?_ ?_); (· rfl)) | ((with_reducible refine w_rs ?_ ?_); (· exact Nat.le_refl _)))))
variable {P : Pg} {n l B : Nat} {S T E : Sto} {X : Xq} {Q : Wv → Sto → Prop}
theorem w_new {c : C} {F : Fo} {r : Ev} (h : (ev P F c r S).post (fun x S1 => (makeW P F x S1).post Q X) X) : (ev P F (.new c) r S).post Q X := by
  rw [ev]; exact w_bind h
theorem mul_tup {xs : List Wv} {i : Int} (h2 : 2 ≤ i) (h3 : i ≤ 1000) (hl : xs.length ≤ 1000) (he : xs.isEmpty = false) : binW .mul S (.tup xs) (.int i) = some (.tup (List.replicate i.toNat xs).flatten) := by
  show (if 2 ≤ i ∧ i ≤ 1000 ∧ xs.length ≤ 1000 ∧ xs.isEmpty = false then some (Wv.tup (List.replicate i.toNat xs).flatten) else none) = _
  rw [if_pos ⟨h2, h3, hl, he⟩]
theorem rep_one {a : Wv} : ∀ k : Nat, (List.replicate k [a]).flatten = List.replicate k a
  | 0 => rfl
  | k + 1 => by rw [List.replicate_succ, List.flatten_cons, rep_one k]; rfl
theorem lv_rep {D W k m : Nat} {a : Wv} (h : Lv D W a) (hk : k ≤ m) : Lv (D + 1) (m * (W + 1)) (.tup (List.replicate k [a]).flatten) := by
  rw [rep_one]
  exact lv_tup (fun x hx => by rw [(List.mem_replicate.mp hx).2]; exact h) (by rw [List.length_replicate]; exact hk)
theorem lv_one {D W : Nat} {a : Wv} (h : Lv D W a) : Lv (D + 1) (W + 1) (.tup [a]) := by
  have := lv_tup (xs := [a]) (k := 1) (D := D) (W := W) (fun x hx => by rw [List.mem_singleton.mp hx]; exact h) (Nat.le_refl _)
  exact this.mono (Nat.le_refl _) (by omega)
theorem lv_lst {D W : Nat} {xs : List Wv} (h : Lv D W (.tup xs)) : Lv D W (.lst xs) := ⟨by simpa [pk] using h.p, by simpa [dep] using h.d, by simpa [wei] using h.w⟩
theorem lv_app {D W W' : Nat} {xs ys : List Wv} (h : Lv D W (.tup xs)) (h2 : Lv D W' (.tup ys)) : Lv D (W + W') (.tup (xs ++ ys)) := by
  refine ⟨?_, ?_, ?_⟩
  · simp only [pk]
    refine pks_iff.mpr fun x hx => ?_
    rcases List.mem_append.mp hx with hx | hx
    · exact pks_iff.mp (by simpa [pk] using h.p) x hx
    · exact pks_iff.mp (by simpa [pk] using h2.p) x hx
  · have d1 := h.d
    have d2 := h2.d
    simp only [dep] at d1 d2 ⊢
    have := deps_le (n := D - 1) (xs := xs ++ ys) |>.mpr fun x hx => by
      rcases List.mem_append.mp hx with hx | hx
      · exact deps_le.mp (show deps xs ≤ D - 1 by omega) x hx
      · exact deps_le.mp (show deps ys ≤ D - 1 by omega) x hx
    omega
  · have d1 := h.w
    have d2 := h2.w
    simp only [wei] at d1 d2 ⊢
    rw [weis_app]
    omega
theorem w_cells {xs : List Wv} {F : Fo} {r : Ev} {a b : Int} {Q : Its → Sto → Prop} (ha : 0 ≤ a ∧ a ≤ 10) (hb : 0 ≤ b ∧ b ≤ 10) (q : ∀ m : Nat, m ≤ 10 → Q (rngI m) S) : (evI P F (.rng [.p2 .max (.k (.int a)) (.p2 .min (.k (.int b)) (.p1 .len (.v 0)))]) (.scr xs :: r) S).post Q X := by
  subst_eqs
  refine w_of (show pr1 .len S (.scr xs) = some (.int xs.length) from rfl) ?_
  refine w_of (show pr2 .min S (.int b) (.int xs.length) = some (.int (if (xs.length : Int) < b then (xs.length : Int) else b)) from rfl) ?_
  refine w_of (show pr2 .max S (.int a) (.int (if (xs.length : Int) < b then (xs.length : Int) else b)) = some (.int (if (if (xs.length : Int) < b then (xs.length : Int) else b) > a then (if (xs.length : Int) < b then (xs.length : Int) else b) else a)) from rfl) ?_
  generalize hz : (if (if (xs.length : Int) < b then (xs.length : Int) else b) > a then (if (xs.length : Int) < b then (xs.length : Int) else b) else a) = z
  have h1 : 0 ≤ z ∧ z ≤ 10 := by rw [← hz]; split <;> (try split) <;> omega
  exact ⟨z.toNat, by rw [Int.toNat_of_nonneg h1.1], by omega, q _ (by omega)⟩
theorem is_bl {a b : Bool} : cmpW .is S (.bl a) (.bl b) = some (a == b) := rfl
theorem w_text {v : Wv} {Q : Wv → Sto → Prop} (h : gd v = true) (hd : dep v ≤ 60) (hw : wei v ≤ 200000) (q : Q (.str v.toD.shown) S) : (R.of (pr1 .repr S v) S).post Q X := w_of (repr_ok h hd hw) q
def fd_law_k11 : Fd := ⟨1, 16, false, [.for_ (.nm 1) (.rng [.p2 .max (.k (.int 1)) (.p2 .min (.k (.int 4)) (.p1 .len (.v 0)))]) [.asg (.nm 2) (.fn 24 [.v 0, .v 1]), .for_ (.nm 3) (.rng [.k (.int 4)]) [.asg (.tp [.nm 4, .nm 5, .nm 6]) (.fn 30 [.v 2]), .asg (.nm 7) (.fn 49 [.v 2, .v 4, .k (.int 4)]), .asg (.nm 8) (.dsp false [.v 7, .lst false (.v 7), .fn 31 [.v 2], .tup [.tup [.tup [.tup [.idx (.v 4) (.k (.int 0))], .k (.str "drop")]]], .tup [.tup [.idx (.v 4) (.k (.int 0)), .k (.str "drop")]]]), .asg (.nm 8) (.bin .add (.v 8) (.dsp false [.tup [.tup [.tup [.tup [], .k (.str "drop")]]], .tup [.tup [.tup [.tup [.k (.str "zzzz")], .k (.str "drop")]]], .tup [.tup [], .tup []], .tup [.tup [.tup [.tup [.idx (.v 4) (.k (.int 0))], .k (.str "back"), .k (.int 1)]]]])), .asg (.nm 9) (.bin .add (.k (.int 7)) (.fn 25 [.v 2, .k (.int 40)])), .asg (.nm 10) (.tup [.tup [.idx (.v 4) (.k (.int 0))], .k (.str "back")]), .asg (.nm 8) (.bin .add (.v 8) (.dsp false [.bin .mul (.tup [.tup [.v 10]]) (.v 9), .tup [.bin .mul (.tup [.v 10]) (.bin .add (.v 9) (.k (.int 6)))], .bin .mul (.tup [.tup []]) (.v 9), .tup [.bin .add (.bin .mul (.tup [.v 10]) (.v 9)) (.tup [.slc (.v 10) none (some (.k (.int 1)))])]])), .for_ (.nm 11) (.any (.bin .add (.v 8) (.lc false [15] (.nm 15) (.rng [.k (.int 10)]) [] (.fn 32 [.v 2, .v 7])))) [.asg (.nm 12) (.and [.isi (.v 11) [.tuple], .p1 .all (.lc false [10] (.nm 10) (.any (.v 11)) [] (.fn 51 [.v 4, .v 10]))]), .asg (.nm 13) (.dsp false [.fn 48 [.v 6, .v 11], .fnk 48 [] [.v 11, .v 6] [1, 0]]), .asg (.nm 14) (.p1 .repr (.v 11)), .ite (.or [.cmp .ne (.p1 .repr (.v 13)) (.p1 .repr (.dsp false [.v 12, .v 12])), .cmp .ne (.p1 .repr (.v 11)) (.v 14)]) [.ret (.k (.bl false))] []]]], .ret (.and [.cmp .is (.fn 48 [.new (.k (.cls 4)), .tup []]) (.k (.bl true)), .cmp .is (.fn 48 [.new (.k (.cls 4)), .tup [.tup []]]) (.k (.bl true))])]⟩
structure Has11 (P : Pg) : Prop where
  g : Gn P
  l : HasL P
  t : HasStk P
  f24 : P.fn 24 = some fd_law_source_v0
  f31 : P.fn 31 = some fd_law_any_v2
  f32 : P.fn 32 = some fd_law_bent_v2
  f35 : P.fn 35 = some fd_law_k11
def inner11 : List Pe.S := [.asg (.nm 12) (.and [.isi (.v 11) [.tuple], .p1 .all (.lc false [10] (.nm 10) (.any (.v 11)) [] (.fn 51 [.v 4, .v 10]))]), .asg (.nm 13) (.dsp false [.fn 48 [.v 6, .v 11], .fnk 48 [] [.v 11, .v 6] [1, 0]]), .asg (.nm 14) (.p1 .repr (.v 11)), .ite (.or [.cmp .ne (.p1 .repr (.v 13)) (.p1 .repr (.dsp false [.v 12, .v 12])), .cmp .ne (.p1 .repr (.v 11)) (.v 14)]) [.ret (.k (.bl false))] []]
theorem inner11_ok (H : Has11 P) {s : Nat} {ls : List Str} (hk : KAt S s ls) {v : Wv} (pv : pk v = true) (dv : dep v ≤ 25) (wv : wei v ≤ 200000) {u0 u1 u2 u3 u5 u7 u8 u9 u10 u12 u13 u14 u15 : Wv} :
    (exB P (callN P 39) inner11 [u0, u1, u2, u3, .lst (stl ls), u5, .ref s, u7, u8, u9, u10, v, u12, u13, u14, u15] S).post (fun fl S' => S' = S ∧ ∃ a b c, fl = .nx [u0, u1, u2, u3, .lst (stl ls), u5, .ref s, u7, u8, u9, u10, v, a, b, c, u15]) NX := by
  have gv := pk_gd v pv
  have nv := gd_nu gv
  have ex : ev P (callN P 39) (.and [.isi (.v 11) [.tuple], .p1 .all (.lc false [10] (.nm 10) (.any (.v 11)) [] (.fn 51 [.v 4, .v 10]))]) [u0, u1, u2, u3, .lst (stl ls), u5, .ref s, u7, u8, u9, u10, v, u12, u13, u14, u15] S = .ok (.bl (stS ls v)) S := by
    refine w_is ?_
    subst_eqs
    refine w_of (isi_tup gv) ?_
    subst_eqs
    cases hT : isTup v with
    | false =>
      have e : stS ls v = false := by cases v <;> first | rfl | cases hT
      subst_eqs
      exact ⟨by rw [e], rfl⟩
    | true =>
      obtain ⟨xs, rfl⟩ : ∃ xs, v = .tup xs := by cases v <;> first | exact ⟨_, rfl⟩ | cases hT
      have px : pks xs = true := by simpa [pk] using pv
      simp only [wei] at wv
      simp only [dep] at dv
      subst_eqs
      refine w_lcp (fun _ => true) (fun x => .bl (stG ls x)) ?_
      subst_eqs
      refine w_of (v := ⟨xs, none⟩) rfl ?_
      have hlx := len_weis xs
      refine ⟨Nat.le_trans hlx (Nat.le_trans wv (by decide)), rfl, fun x hx => ⟨_, rfl, rfl, fun _ => ?_⟩, ?_⟩
      · have hx : x ∈ xs := hx
        have wx := weis_mem hx
        have dx := (deps_le (n := deps xs)).mp (Nat.le_refl _) x hx
        have p := pks_iff.mp px x hx
        have nx := gd_nu (pk_gd x p)
        refine w_is ?_
        subst_eqs
        exact w_eq (run_lawlayer H.l S 25 39 x (by omega) (by omega) p (by omega) (by omega)) ⟨rfl, rfl⟩
      · rw [List.filter_eq_self.mpr (fun _ _ => rfl)]
        refine w_newf (by rw [List.length_map]; exact Nat.le_trans hlx (Nat.le_trans wv (by decide))) ?_
        refine w_of all_ok ?_
        have hh : stS ls (.tup xs) = xs.all (stG ls) := rfl
        rw [hh]
        cases xs.all (stG ls) with
        | true =>
          subst_eqs
          exact ⟨rfl, rfl⟩
        | false =>
          subst_eqs
          exact ⟨rfl, rfl⟩
  have es : callN P 39 48 [.ref s, v] S = .ok (.bl (stS ls v)) S := run_stack (S := S) (k := 39) H.t hk gv wv dv (by omega)
  unfold inner11
  refine w_asg1 (of_decide_eq_true rfl) (w_eq ex ?_)
  subst_eqs
  refine w_eq es ?_
  subst_eqs
  refine ⟨_, rfl, ?_⟩
  refine w_eq es ?_
  subst_eqs
  refine w_text gv (by omega) wv ?_
  subst_eqs
  have gb : gd (.lst [.bl (stS ls v), .bl (stS ls v)]) = true := rfl
  refine w_text gb (by simp [dep, deps]) (by simp [wei, weis]) ?_
  subst_eqs
  refine w_text gb (by simp [dep, deps]) (by simp [wei, weis]) ?_
  refine w_of ne_same ?_
  subst_eqs
  refine w_text gv (by omega) wv ?_
  subst_eqs
  refine w_of ne_same ?_
  subst_eqs
  exact ⟨rfl, _, _, _, rfl⟩
theorem run_law11 (H : Has11 P) (ns : List Int) (hn : ns.length ≤ 63) : ∃ S', callN P 40 35 [.scr (ns.map Wv.int)] [] = .ok (.bl true) S' := by
  have hd := H.g.f25
  suffices h : (callN P 40 35 [.scr (ns.map Wv.int)] []).post (fun v _ => v = .bl true) NX by
    obtain ⟨v, S', e, rfl⟩ := w_ex h
    exact ⟨S', e⟩
  refine w_call H.f35 rfl (by decide) ?_
  refine w_for (fun v => [.scr (ns.map Wv.int), v 1, v 2, v 3, v 4, v 5, v 6, v 7, v 8, v 9, v 10, v 11, v 12, v 13, v 14, v 15]) (fun S1 k v S2 => Cl S2) ?_
  refine w_cells (by decide) (by decide) fun m hm => ?_
  refine ⟨rfl, rfl, fun _ _ _ _ _ => rfl, fun k x v S2 hx c2 => ?_, fun v S2 c2 => ?_⟩
  · obtain ⟨hk, rfl⟩ := rng_at hx
    refine ⟨_, rfl, ?_⟩
    subst_eqs
    obtain ⟨a, b, e1, s1⟩ := run_source (n := 38) (S := S2) H.f24 hn (j := k) (by omega)
    refine w_eq e1 ?_
    have c3 : Cl (S2 ++ [src a b]) := c2.push rfl
    subst_eqs
    refine w_for (fun v => [.scr (ns.map Wv.int), .int k, .ref S2.length, v 3, v 4, v 5, v 6, v 7, v 8, v 9, v 10, v 11, v 12, v 13, v 14, v 15]) (fun S1 k v S3 => Src S2.length (1 + 100000 * k) S3 ∧ Cl S3) ?_
    subst_eqs
    refine ⟨4, rfl, by decide, rfl, ⟨s1.mono (by omega), c3⟩, fun _ _ _ _ _ => rfl, fun t x v S3 hx hJ => ?_, fun v S3 hJ => ?_⟩
    · obtain ⟨s3, c3⟩ := hJ
      obtain ⟨ht, rfl⟩ := rng_at hx
      refine ⟨_, rfl, ?_⟩
      obtain ⟨ls, S4, q, s, e4, hl, s4, c4, hq, k4, o4, l4⟩ := run_setup (n := 34) H.l.f.m.s s3 (by omega) c3
      refine w_asg ?_
      subst_eqs
      refine w_eq e4 ⟨_, rfl, ?_⟩
      subst_eqs
      obtain ⟨v7, S5, e5, ⟨hv7, xs, rfl⟩, s5, w5⟩ := run_layers (n := 28) H.g hl s4 (by omega) c4 (m := 4) (by omega)
      refine w_eq e5 ?_
      subst_eqs
      refine w_newf (Nat.le_trans (len_weis xs) (Nat.le_trans hv7.w (by decide))) ?_
      subst_eqs
      obtain ⟨o, S6, e6, ho, s6, w6⟩ := run_any2 (n := 37) H.f31 hd s5 (by omega) (w5.cl c4)
      refine w_eq e6 ?_
      have nuo := gd_nu (pk_gd o ho.p)
      obtain ⟨x, hx⟩ : ∃ x, ls[0]? = some x := ⟨ls[0]'(by have := hl.few.1; omega), List.getElem?_eq_getElem _⟩
      have hxm := List.mem_of_getElem? hx
      have ix : ∀ S : Sto, idxW S (.lst (stl ls)) (.int 0) = some (.str x) := fun S => idx_lst (j := 0) rfl (by rw [List.getElem?_map, hx]; rfl)
      subst_eqs
      refine w_of (ix _) ?_
      subst_eqs
      refine w_of (ix _) ?_
      subst_eqs
      refine w_of (ix _) ?_
      subst_eqs
      refine w_draw hd s6 (by omega) (by decide) (by decide) fun d S7 d0 d1 s7 w7 => ?_
      obtain ⟨d, rfl⟩ : ∃ k : Nat, d = (k : Int) := ⟨d.toNat, by omega⟩
      subst_eqs
      refine w_of (ix _) ?_
      subst_eqs
      refine w_of (mul_tup (by omega) (by omega) (by decide : 1 ≤ 1000) rfl) ?_
      subst_eqs
      refine w_of (mul_tup (by omega) (by omega) (by decide : 1 ≤ 1000) rfl) ?_
      subst_eqs
      refine w_of (mul_tup (by omega) (by omega) (by decide : 1 ≤ 1000) rfl) ?_
      subst_eqs
      refine w_of (mul_tup (by omega) (by omega) (by decide : 1 ≤ 1000) rfl) ?_
      subst_eqs
      have lr : ∀ (a : Wv) (i : Int), (List.replicate i.toNat [a]).flatten.length = i.toNat := fun a i => by rw [rep_one, List.length_replicate]
      subst_eqs
      refine w_of (add_tup (by rw [lr]; show (7 + (d : Int)).toNat + 1 ≤ _; omega)) ?_
      subst_eqs
      refine w_for (fun v' => [.scr (ns.map Wv.int), .int k, .ref S2.length, .int t, .lst (stl ls), .ref q, .ref s, .tup xs, v' 8, v' 9, v' 10, v' 11, v' 12, v' 13, v' 14, v 15]) (fun S1 k v S3 => S3 = S1) ?_
      subst_eqs
      refine w_lc (fun S1 k ys S8 => ys.length = k ∧ (∀ y ∈ ys, Rk (.tup xs) y) ∧ Src S2.length (1 + 100000 * t + 60200 + 100 * k) S8 ∧ Drw S2.length S7 S8) ?_
      subst_eqs
      have w47 := (w5.trans w6).trans w7
      refine ⟨10, rfl, by decide, (by decide : 10 ≤ line), ⟨rfl, by simp, s7.mono (by omega), .rfl'⟩, fun _ _ _ _ _ => rfl, fun j y ys S8 hy hJ => ?_, fun ys S8 hJ => ?_⟩
      · obtain ⟨h1, h2, s8, w8⟩ := hJ
        obtain ⟨hj, rfl⟩ := rng_at hy
        refine ⟨_, rfl, ?_⟩
        subst_eqs
        obtain ⟨r, S9, e9, rk, s9, w9⟩ := run_bent2 (n := 20) H.f32 H.f31 hd 15 (.tup xs) _ _ hv7.p hv7.d (Nat.le_trans hv7.w (by decide)) s8 (by omega) ((w47.trans w8).cl c4)
        refine w_eq e9 ⟨by simp [h1], fun z hz => ?_, s9.mono (by omega), w8.trans w9⟩
        rcases List.mem_append.mp hz with hz | hz
        · exact h2 z hz
        · rw [List.mem_singleton.mp hz]; exact rk
      · obtain ⟨h1, h2, s8, w8⟩ := hJ
        have h1 : ys.length = 10 := h1
        refine w_newf (by rw [h1]; decide) ?_
        refine w_of (add_lst (by rw [h1]; show 13 + 10 ≤ _; decide)) ?_
        have w48 := w47.trans w8
        have c8 := w48.cl c4
        have k8 : KAt S8 s ls := k4.keep s4 fun j _ jl => w48.get jl
        -- all values are fit
        have lx : Lv 15 60004 (.tup xs) := hv7
        have ln : Lv 1 18 (.tup [.str x]) := lv_names (ns := [x]) hl (by simpa using hxm) (Nat.le_succ 1)
        have nx := nm_pk (hl.nm x hxm)
        have lone : Lv 2 40 (.tup [.tup [.str x], .str BACK]) := (lv_pair ln (lv_str (by decide +kernel))).mono (by decide) (by decide)
        have ld : Lv 2 40 (.tup [.tup [.str x], .str DROP]) := (lv_pair ln (lv_str (by decide +kernel))).mono (by decide) (by decide)
        have le : Lv 3 100 (.tup []) := ⟨rfl, by decide, by decide⟩
        have all : ∀ v ∈ ([.tup xs, .lst xs, o, .tup [.tup [.tup [.tup [.str x], .str DROP]]], .tup [.tup [.str x, .str DROP]]] ++ [.tup [.tup [.tup [.tup [], .str DROP]]], .tup [.tup [.tup [.tup [.str "zzzz"], .str DROP]]], .tup [.tup [], .tup []], .tup [.tup [.tup [.tup [.str x], .str BACK, .int 1]]]] ++ [.tup (List.replicate (7 + (d : Int)).toNat [.tup [.tup [.tup [.str x], .str BACK]]]).flatten, .tup [.tup (List.replicate (7 + (d : Int) + 6).toNat [.tup [.tup [.str x], .str BACK]]).flatten], .tup (List.replicate (7 + (d : Int)).toNat [.tup []]).flatten, .tup [.tup ((List.replicate (7 + (d : Int)).toNat [.tup [.tup [.str x], .str BACK]]).flatten ++ [.tup (List.take 1 [.tup [.str x], .str BACK])])]] ++ ys : List Wv), pk v = true ∧ dep v ≤ 25 ∧ wei v ≤ 200000 := fun v hv => by
          have up : ∀ {D W : Nat} {v : Wv}, Lv D W v → D ≤ 25 → W ≤ 200000 → pk v = true ∧ dep v ≤ 25 ∧ wei v ≤ 200000 := fun h a b => ⟨h.p, Nat.le_trans h.d a, Nat.le_trans h.w b⟩
          have hz := lv_str (x := "zzzz") (by decide +kernel)
          have h5 := lv_str (x := DROP) (by decide +kernel)
          rcases List.mem_append.mp hv with hv | hv
          · rcases List.mem_append.mp hv with hv | hv
            · rcases List.mem_append.mp hv with hv | hv
              · simp only [List.mem_cons, List.not_mem_nil, or_false] at hv
                rcases hv with rfl | rfl | rfl | rfl | rfl
                · exact up lx (by decide) (by decide)
                · exact up (lv_lst lx) (by decide) (by decide)
                · exact up ho (by decide) (by decide)
                · exact up (lv_one (lv_one ld)) (by decide) (by decide)
                · exact up (lv_one (lv_pair (lv_str nx) h5)) (by decide) (by decide)
              · simp only [List.mem_cons, List.not_mem_nil, or_false] at hv
                rcases hv with rfl | rfl | rfl | rfl
                · exact up (lv_one (lv_one (lv_pair le h5))) (by decide) (by decide)
                · exact up (lv_one (lv_one (lv_pair (lv_one hz) h5))) (by decide) (by decide)
                · exact up (lv_pair le le) (by decide) (by decide)
                · refine up (D := 5) (W := 600) (lv_one (D := 4) (W := 599) (lv_one (D := 3) (W := 598) ?_)) (by decide) (by decide)
                  have g := lv_tup (xs := [.tup [.str x], .str BACK, .int 1]) (D := 2) (W := 180) (k := 3) (fun y hy => by
                    simp only [List.mem_cons, List.not_mem_nil, or_false] at hy
                    rcases hy with rfl | rfl | rfl
                    · exact ln.mono (by decide) (by decide)
                    · exact (lv_str (by decide +kernel)).mono (by decide) (by decide)
                    · exact ⟨by decide +kernel, by decide, by decide⟩) (Nat.le_refl 3)
                  exact g.mono (by decide) (by decide)
            · simp only [List.mem_cons, List.not_mem_nil, or_false] at hv
              rcases hv with rfl | rfl | rfl | rfl
              · exact up (lv_rep (m := 100) (lv_one lone) (by omega)) (by decide) (by decide)
              · exact up (lv_one (lv_rep (m := 100) lone (by omega))) (by decide) (by decide)
              · exact up (lv_rep (m := 100) le (by omega)) (by decide) (by decide)
              · exact up (lv_one (lv_app (lv_rep (m := 100) lone (by omega)) ((lv_one (lv_one ln)).mono (by decide) (Nat.le_refl _)))) (by decide) (by decide)
          · have r := h2 v hv
            have := r.d
            have := r.w
            have := lx.d
            have := lx.w
            exact ⟨r.p, by omega, by omega⟩
        refine w_of (v := ⟨_, none⟩) rfl ?_
        refine ⟨rfl, rfl, fun _ _ _ _ _ => rfl, fun j v v' S3 hv hJ => ?_, fun v' S3 hJ => ?_⟩
        · subst hJ
          obtain ⟨pv, dv, wv⟩ := all v (List.mem_of_getElem? hv)
          refine ⟨_, rfl, w_mono (inner11_ok H k8 pv dv wv) fun fl S3 h => ?_⟩
          obtain ⟨rfl, a, b, c, rfl⟩ := h
          exact ⟨rfl, rfl⟩
        · subst hJ
          subst_eqs
          exact ⟨rfl, s8.mono (by omega), c8⟩
    · subst_eqs
      exact ⟨rfl, hJ.2⟩
  · have k0 : ∀ S : Sto, KAt (S ++ kObs S.length [] []) S.length [] := fun S => ⟨S.length + 2, S.length + 3, [], get_at0, get_at 3, rfl⟩
    have c3 : Cl (S2 ++ kObs S2.length [] []) := kObs_cl c2 rfl fun _ => rfl
    subst_eqs
    refine w_new ?_
    subst_eqs
    refine w_eq (run_make0 (k := 36) H.l.f.m.s.k c2) ?_
    subst_eqs
    refine w_eq (run_stack (k := 39) (m := 9) H.t (k0 _) (v := .tup []) rfl (by decide) (by decide) (by omega)) ?_
    subst_eqs
    refine w_of is_bl ?_
    subst_eqs
    refine w_new ?_
    subst_eqs
    refine w_eq (run_make0 (k := 36) H.l.f.m.s.k c3) ?_
    subst_eqs
    refine w_eq (run_stack (k := 39) (m := 9) H.t (k0 _) (v := .tup [.tup []]) rfl (by decide) (by decide) (by omega)) ?_
    subst_eqs
    refine w_of is_bl ?_
    subst_eqs
    exact w_rt rfl
end Pe

set_option maxHeartbeats 4000000
namespace Pe
open PySem PySem.Spec PyProof.Rows L2
def fns_k11 : List (Nat × Fd) := [(6, fd_is_name), (7, fd_is_message), (8, fd_are_bases), (9, fd_are_rows), (10, fd_Kinds_init), (11, fd_Kinds_of), (12, fd_Kinds_take_rows), (18, fd_Kinds_has), (24, fd_law_source_v0), (25, fd_law_draw_v0), (26, fd_law_random_names), (27, fd_law_random_lines), (28, fd_law_over), (30, fd_law_setup), (31, fd_law_any_v2), (32, fd_law_bent_v2), (33, fd_law_is_message), (35, fd_law_k11), (36, fd_is_pair), (37, fd_is_part), (38, fd_count_stars), (39, fd_is_form), (40, fd_law_random_form), (41, fd_law_some_labels), (42, fd_law_random_layer), (43, fd_law_stars), (44, fd_are_kinds), (45, fd_is_action), (46, fd_is_clause), (47, fd_is_guard), (48, fd_is_stack), (49, fd_law_random_layers), (50, fd_law_are_labels), (51, fd_law_is_layer)]
def mts_k11 : List ((Nat × Nat) × Nat) := [((4, 3), 12), ((4, 9), 18)]
def cms_k11 : List ((Nat × Nat) × Nat) := [((4, 2), 11)]
def ins_k11 : List (Nat × Nat) := [(4, 10)]
def cns_k11 : List ((Nat × Nat) × Wv) := [((4, 1), .int 7)]
def fls_k11 : List ((Nat × Nat) × Unit) := [((4, 18), ()), ((4, 19), ())]
def pg_k11 : Pg := ⟨fun i => fns_k11.lookup i, fun c m => mts_k11.lookup (c, m), fun c m => cms_k11.lookup (c, m), fun c => ins_k11.lookup c, fun c f => cns_k11.lookup (c, f), fun c f => (fls_k11.lookup (c, f)).isSome⟩
theorem run_k11 : ∀ ns : List Int, ns.length ≤ 63 → (callN pg_k11 40 35 [.scr (ns.map Wv.int)] []).post (fun v _ => v = .bl true) fun _ _ _ => False := fun ns hn => by
  have hk : HasK pg_k11 := ⟨rfl, rfl, rfl, rfl, rfl, rfl, rfl, rfl, rfl, rfl, rfl⟩
  have hs : HasS pg_k11 := ⟨hk, rfl, rfl, rfl, rfl, rfl, rfl⟩
  have hm : HasM pg_k11 := ⟨⟨hs, rfl, rfl, rfl⟩, rfl⟩
  have hf : HasF pg_k11 := ⟨hm, rfl, rfl, rfl, rfl, rfl⟩
  have ht : HasStk pg_k11 := ⟨hf, rfl, rfl, rfl, rfl, rfl⟩
  have hl : HasL pg_k11 := ⟨hf, rfl, rfl⟩
  have hg : Gn pg_k11 := ⟨rfl, rfl, rfl, rfl, rfl⟩
  have h : Has11 pg_k11 := ⟨hg, hl, ht, rfl, rfl, rfl, rfl⟩
  obtain ⟨S', e⟩ := run_law11 h ns hn
  rw [e]
  rfl

def top (i : Nat) : Stmt := PySem.Challenge.pw_errorplaces_k11_is_stack.main.body.getD i (.Pass ⟨0, 0, 0, 0⟩)
def atts : List Str := ["__init__", "LIMIT", "of", "take_rows", "__eq__", "__len__", "__contains__", "__repr__", "order", "has", "look", "below", "above", "is_under", "name", "bases", "value", "limit", "known", "over"]
def geB : List Str := ["range", "max", "min", "len", "list", "isinstance", "tuple", "all", "repr", "abs", "enumerate", "sorted", "str", "set", "int", "sum"]
def geF : List (Str × Nat) := [("is_name", 6), ("is_message", 7), ("are_bases", 8), ("are_rows", 9), ("_law_source", 24), ("_law_draw", 25), ("_law_random_names", 26), ("_law_random_lines", 27), ("_law_over", 28), ("_law_setup", 30), ("_law_any", 31), ("_law_bent", 32), ("_law_is_message", 33), ("law", 35), ("is_pair", 36), ("is_part", 37), ("count_stars", 38), ("is_form", 39), ("_law_random_form", 40), ("_law_some_labels", 41), ("_law_random_layer", 42), ("_law_stars", 43), ("are_kinds", 44), ("is_action", 45), ("is_clause", 46), ("is_guard", 47), ("is_stack", 48), ("_law_random_layers", 49), ("_law_are_labels", 50), ("_law_is_layer", 51)]
def geC : List (Str × Wv) := [("MOST_LETTERS", .int 8), ("LETTERS", .str "abcdefghijklmnopqrstuvwxyz"), ("Kinds", .cls 4)]
def geK : List (Nat × List Str × List Nat) := [(48, ["thing", "kinds"], [1, 0])]
def ge : Ge := ⟨geB, geF, geC, atts, geK⟩
abbrev st6 : Stmt := top 9
def ns6 : List Str := ["thing", "sign"]
def ps6 : List Str := ["thing"]
theorem sc6 : FnScope ns6 ps6 (defScope st6) := ⟨rfl, rfl, rfl, by decide +kernel, rfl, by decide +kernel, by decide +kernel⟩
theorem ck6 : chkB ge pg_k11 ns6 (defScope st6) (cellsOf (defScope st6)) fd_is_name.body (defBody st6) = true := by decide +kernel
abbrev st7 : Stmt := top 10
def ns7 : List Str := ["thing"]
def ps7 : List Str := ["thing"]
theorem sc7 : FnScope ns7 ps7 (defScope st7) := ⟨rfl, rfl, rfl, by decide +kernel, rfl, by decide +kernel, by decide +kernel⟩
theorem ck7 : chkB ge pg_k11 ns7 (defScope st7) (cellsOf (defScope st7)) fd_is_message.body (defBody st7) = true := by decide +kernel
abbrev st8 : Stmt := top 11
def ns8 : List Str := ["thing", "before", "names", "name"]
def ps8 : List Str := ["thing", "before"]
theorem sc8 : FnScope ns8 ps8 (defScope st8) := ⟨rfl, rfl, rfl, by decide +kernel, rfl, by decide +kernel, by decide +kernel⟩
theorem ck8 : chkB ge pg_k11 ns8 (defScope st8) (cellsOf (defScope st8)) fd_are_bases.body (defBody st8) = true := by decide +kernel
abbrev st9 : Stmt := top 12
def ns9 : List Str := ["thing", "row"]
def ps9 : List Str := ["thing"]
theorem sc9 : FnScope ns9 ps9 (defScope st9) := ⟨rfl, rfl, rfl, by decide +kernel, rfl, by decide +kernel, by decide +kernel⟩
theorem ck9 : chkB ge pg_k11 ns9 (defScope st9) (cellsOf (defScope st9)) fd_are_rows.body (defBody st9) = true := by decide +kernel
abbrev st10 : Stmt := inClass (top 13) 1
def ns10 : List Str := ["self", "bases"]
def ps10 : List Str := ["self", "bases"]
theorem sc10 : FnScope ns10 ps10 (defScope st10) := ⟨rfl, rfl, rfl, by decide +kernel, rfl, by decide +kernel, by decide +kernel⟩
theorem ck10 : chkB ge pg_k11 ns10 (defScope st10) (cellsOf (defScope st10)) fd_Kinds_init.body (defBody st10) = true := by decide +kernel
abbrev st11 : Stmt := inClass (top 13) 2
def ns11 : List Str := ["cls", "rows", "made"]
def ps11 : List Str := ["cls", "rows"]
theorem sc11 : FnScope ns11 ps11 (defScope st11) := ⟨rfl, rfl, rfl, by decide +kernel, rfl, by decide +kernel, by decide +kernel⟩
theorem ck11 : chkB ge pg_k11 ns11 (defScope st11) (cellsOf (defScope st11)) fd_Kinds_of.body (defBody st11) = true := by decide +kernel
abbrev st12 : Stmt := inClass (top 13) 3
def ns12 : List Str := ["self", "rows", "names", "name", "bases", "at", "found", "base", "kind"]
def ps12 : List Str := ["self", "rows"]
theorem sc12 : FnScope ns12 ps12 (defScope st12) := ⟨rfl, rfl, rfl, by decide +kernel, rfl, by decide +kernel, by decide +kernel⟩
theorem ck12 : chkB ge pg_k11 ns12 (defScope st12) (cellsOf (defScope st12)) fd_Kinds_take_rows.body (defBody st12) = true := by decide +kernel
abbrev st18 : Stmt := inClass (top 13) 9
def ns18 : List Str := ["self", "thing"]
def ps18 : List Str := ["self", "thing"]
theorem sc18 : FnScope ns18 ps18 (defScope st18) := ⟨rfl, rfl, rfl, by decide +kernel, rfl, by decide +kernel, by decide +kernel⟩
theorem ck18 : chkB ge pg_k11 ns18 (defScope st18) (cellsOf (defScope st18)) fd_Kinds_has.body (defBody st18) = true := by decide +kernel
abbrev st24 : Stmt := top 25
def ns24 : List Str := ["script", "at", "cell", "mix", "k"]
def ps24 : List Str := ["script", "at"]
theorem sc24 : FnScope ns24 ps24 (defScope st24) := ⟨rfl, rfl, rfl, by decide +kernel, rfl, by decide +kernel, by decide +kernel⟩
theorem ck24 : chkB ge pg_k11 ns24 (defScope st24) (cellsOf (defScope st24)) fd_law_source_v0.body (defBody st24) = true := by decide +kernel
abbrev st25 : Stmt := top 26
def ns25 : List Str := ["source", "many", "digit"]
def ps25 : List Str := ["source", "many"]
theorem sc25 : FnScope ns25 ps25 (defScope st25) := ⟨rfl, rfl, rfl, by decide +kernel, rfl, by decide +kernel, by decide +kernel⟩
theorem ck25 : chkB ge pg_k11 ns25 (defScope st25) (cellsOf (defScope st25)) fd_law_draw_v0.body (defBody st25) = true := by decide +kernel
abbrev st26 : Stmt := top 27
def ns26 : List Str := ["source", "many", "letters", "base", "at", "begin", "k"]
def ps26 : List Str := ["source", "many"]
theorem sc26 : FnScope ns26 ps26 (defScope st26) := ⟨rfl, rfl, rfl, by decide +kernel, rfl, by decide +kernel, by decide +kernel⟩
theorem ck26 : chkB ge pg_k11 ns26 (defScope st26) (cellsOf (defScope st26)) fd_law_random_names.body (defBody st26) = true := by decide +kernel
abbrev st27 : Stmt := top 28
def ns27 : List Str := ["source", "labels", "found", "k", "left", "bases", "turn"]
def ps27 : List Str := ["source", "labels"]
theorem sc27 : FnScope ns27 ps27 (defScope st27) := ⟨rfl, rfl, rfl, by decide +kernel, rfl, by decide +kernel, by decide +kernel⟩
theorem ck27 : chkB ge pg_k11 ns27 (defScope st27) (cellsOf (defScope st27)) fd_law_random_lines.body (defBody st27) = true := by decide +kernel
abbrev st28 : Stmt := top 29
def ns28 : List Str := ["lines", "found", "label", "bases", "over", "base", "one"]
def ps28 : List Str := ["lines"]
theorem sc28 : FnScope ns28 ps28 (defScope st28) := ⟨rfl, rfl, rfl, by decide +kernel, rfl, by decide +kernel, by decide +kernel⟩
theorem ck28 : chkB ge pg_k11 ns28 (defScope st28) (cellsOf (defScope st28)) fd_law_over.body (defBody st28) = true := by decide +kernel
abbrev st30 : Stmt := top 34
def ns30 : List Str := ["source", "labels", "lines"]
def ps30 : List Str := ["source"]
theorem sc30 : FnScope ns30 ps30 (defScope st30) := ⟨rfl, rfl, rfl, by decide +kernel, rfl, by decide +kernel, by decide +kernel⟩
theorem ck30 : chkB ge pg_k11 ns30 (defScope st30) (cellsOf (defScope st30)) fd_law_setup.body (defBody st30) = true := by decide +kernel
abbrev st31 : Stmt := top 35
def ns31 : List Str := ["source", "some"]
def ps31 : List Str := ["source"]
theorem sc31 : FnScope ns31 ps31 (defScope st31) := ⟨rfl, rfl, rfl, by decide +kernel, rfl, by decide +kernel, by decide +kernel⟩
theorem ck31 : chkB ge pg_k11 ns31 (defScope st31) (cellsOf (defScope st31)) fd_law_any_v2.body (defBody st31) = true := by decide +kernel
abbrev st32 : Stmt := top 36
def ns32 : List Str := ["source", "value", "other", "choice", "at", "some"]
def ps32 : List Str := ["source", "value"]
theorem sc32 : FnScope ns32 ps32 (defScope st32) := ⟨rfl, rfl, rfl, by decide +kernel, rfl, by decide +kernel, by decide +kernel⟩
theorem ck32 : chkB ge pg_k11 ns32 (defScope st32) (cellsOf (defScope st32)) fd_law_bent_v2.body (defBody st32) = true := by decide +kernel
abbrev st33 : Stmt := top 37
def ns33 : List Str := ["value", "sign"]
def ps33 : List Str := ["value"]
theorem sc33 : FnScope ns33 ps33 (defScope st33) := ⟨rfl, rfl, rfl, by decide +kernel, rfl, by decide +kernel, by decide +kernel⟩
theorem ck33 : chkB ge pg_k11 ns33 (defScope st33) (cellsOf (defScope st33)) fd_law_is_message.body (defBody st33) = true := by decide +kernel
abbrev st35 : Stmt := top 41
def ns35 : List Str := ["script", "k", "source", "turn", "labels", "over", "sorts", "layers", "some", "many", "one", "value", "expected", "found", "shown", "more"]
def ps35 : List Str := ["script"]
theorem sc35 : FnScope ns35 ps35 (defScope st35) := ⟨rfl, rfl, rfl, by decide +kernel, rfl, by decide +kernel, by decide +kernel⟩
theorem ck35 : chkB ge pg_k11 ns35 (defScope st35) (cellsOf (defScope st35)) fd_law_k11.body (defBody st35) = true := by decide +kernel
abbrev st36 : Stmt := top 15
def ns36 : List Str := ["thing"]
def ps36 : List Str := ["thing"]
theorem sc36 : FnScope ns36 ps36 (defScope st36) := ⟨rfl, rfl, rfl, by decide +kernel, rfl, by decide +kernel, by decide +kernel⟩
theorem ck36 : chkB ge pg_k11 ns36 (defScope st36) (cellsOf (defScope st36)) fd_is_pair.body (defBody st36) = true := by decide +kernel
abbrev st37 : Stmt := top 16
def ns37 : List Str := ["kinds", "thing", "one"]
def ps37 : List Str := ["kinds", "thing"]
theorem sc37 : FnScope ns37 ps37 (defScope st37) := ⟨rfl, rfl, rfl, by decide +kernel, rfl, by decide +kernel, by decide +kernel⟩
theorem ck37 : chkB ge pg_k11 ns37 (defScope st37) (cellsOf (defScope st37)) fd_is_part.body (defBody st37) = true := by decide +kernel
abbrev st38 : Stmt := top 17
def ns38 : List Str := ["form", "one"]
def ps38 : List Str := ["form"]
theorem sc38 : FnScope ns38 ps38 (defScope st38) := ⟨rfl, rfl, rfl, by decide +kernel, rfl, by decide +kernel, by decide +kernel⟩
theorem ck38 : chkB ge pg_k11 ns38 (defScope st38) (cellsOf (defScope st38)) fd_count_stars.body (defBody st38) = true := by decide +kernel
abbrev st39 : Stmt := top 18
def ns39 : List Str := ["kinds", "thing"]
def ps39 : List Str := ["kinds", "thing"]
theorem sc39 : FnScope ns39 ps39 (defScope st39) := ⟨rfl, rfl, rfl, by decide +kernel, rfl, by decide +kernel, by decide +kernel⟩
theorem ck39 : chkB ge pg_k11 ns39 (defScope st39) (cellsOf (defScope st39)) fd_is_form.body (defBody st39) = true := by decide +kernel
abbrev st40 : Stmt := top 30
def ns40 : List Str := ["source", "labels", "has_part", "depth", "many", "at", "some", "k"]
def ps40 : List Str := ["source", "labels", "has_part", "depth"]
theorem sc40 : FnScope ns40 ps40 (defScope st40) := ⟨rfl, rfl, rfl, by decide +kernel, rfl, by decide +kernel, by decide +kernel⟩
theorem ck40 : chkB ge pg_k11 ns40 (defScope st40) (cellsOf (defScope st40)) fd_law_random_form.body (defBody st40) = true := by decide +kernel
abbrev st41 : Stmt := top 31
def ns41 : List Str := ["source", "labels", "k"]
def ps41 : List Str := ["source", "labels"]
theorem sc41 : FnScope ns41 ps41 (defScope st41) := ⟨rfl, rfl, rfl, by decide +kernel, rfl, by decide +kernel, by decide +kernel⟩
theorem ck41 : chkB ge pg_k11 ns41 (defScope st41) (cellsOf (defScope st41)) fd_law_some_labels.body (defBody st41) = true := by decide +kernel
abbrev st42 : Stmt := top 32
def ns42 : List Str := ["source", "labels", "depth", "found", "k", "choice", "action"]
def ps42 : List Str := ["source", "labels", "depth"]
theorem sc42 : FnScope ns42 ps42 (defScope st42) := ⟨rfl, rfl, rfl, by decide +kernel, rfl, by decide +kernel, by decide +kernel⟩
theorem ck42 : chkB ge pg_k11 ns42 (defScope st42) (cellsOf (defScope st42)) fd_law_random_layer.body (defBody st42) = true := by decide +kernel
abbrev st43 : Stmt := top 38
def ns43 : List Str := ["labels", "value", "found", "one"]
def ps43 : List Str := ["labels", "value"]
theorem sc43 : FnScope ns43 ps43 (defScope st43) := ⟨rfl, rfl, rfl, by decide +kernel, rfl, by decide +kernel, by decide +kernel⟩
theorem ck43 : chkB ge pg_k11 ns43 (defScope st43) (cellsOf (defScope st43)) fd_law_stars.body (defBody st43) = true := by decide +kernel
abbrev st44 : Stmt := top 19
def ns44 : List Str := ["kinds", "thing", "name"]
def ps44 : List Str := ["kinds", "thing"]
theorem sc44 : FnScope ns44 ps44 (defScope st44) := ⟨rfl, rfl, rfl, by decide +kernel, rfl, by decide +kernel, by decide +kernel⟩
theorem ck44 : chkB ge pg_k11 ns44 (defScope st44) (cellsOf (defScope st44)) fd_are_kinds.body (defBody st44) = true := by decide +kernel
abbrev st45 : Stmt := top 20
def ns45 : List Str := ["kinds", "thing", "names", "form", "guard"]
def ps45 : List Str := ["kinds", "thing"]
theorem sc45 : FnScope ns45 ps45 (defScope st45) := ⟨rfl, rfl, rfl, by decide +kernel, rfl, by decide +kernel, by decide +kernel⟩
theorem ck45 : chkB ge pg_k11 ns45 (defScope st45) (cellsOf (defScope st45)) fd_is_action.body (defBody st45) = true := by decide +kernel
abbrev st46 : Stmt := top 21
def ns46 : List Str := ["kinds", "thing"]
def ps46 : List Str := ["kinds", "thing"]
theorem sc46 : FnScope ns46 ps46 (defScope st46) := ⟨rfl, rfl, rfl, by decide +kernel, rfl, by decide +kernel, by decide +kernel⟩
theorem ck46 : chkB ge pg_k11 ns46 (defScope st46) (cellsOf (defScope st46)) fd_is_clause.body (defBody st46) = true := by decide +kernel
abbrev st47 : Stmt := top 22
def ns47 : List Str := ["kinds", "thing", "clause"]
def ps47 : List Str := ["kinds", "thing"]
theorem sc47 : FnScope ns47 ps47 (defScope st47) := ⟨rfl, rfl, rfl, by decide +kernel, rfl, by decide +kernel, by decide +kernel⟩
theorem ck47 : chkB ge pg_k11 ns47 (defScope st47) (cellsOf (defScope st47)) fd_is_guard.body (defBody st47) = true := by decide +kernel
abbrev st48 : Stmt := top 23
def ns48 : List Str := ["kinds", "thing", "guard"]
def ps48 : List Str := ["kinds", "thing"]
theorem sc48 : FnScope ns48 ps48 (defScope st48) := ⟨rfl, rfl, rfl, by decide +kernel, rfl, by decide +kernel, by decide +kernel⟩
theorem ck48 : chkB ge pg_k11 ns48 (defScope st48) (cellsOf (defScope st48)) fd_is_stack.body (defBody st48) = true := by decide +kernel
abbrev st49 : Stmt := top 33
def ns49 : List Str := ["source", "labels", "most", "k"]
def ps49 : List Str := ["source", "labels", "most"]
theorem sc49 : FnScope ns49 ps49 (defScope st49) := ⟨rfl, rfl, rfl, by decide +kernel, rfl, by decide +kernel, by decide +kernel⟩
theorem ck49 : chkB ge pg_k11 ns49 (defScope st49) (cellsOf (defScope st49)) fd_law_random_layers.body (defBody st49) = true := by decide +kernel
abbrev st50 : Stmt := top 39
def ns50 : List Str := ["labels", "value", "one"]
def ps50 : List Str := ["labels", "value"]
theorem sc50 : FnScope ns50 ps50 (defScope st50) := ⟨rfl, rfl, rfl, by decide +kernel, rfl, by decide +kernel, by decide +kernel⟩
theorem ck50 : chkB ge pg_k11 ns50 (defScope st50) (cellsOf (defScope st50)) fd_law_are_labels.body (defBody st50) = true := by decide +kernel
abbrev st51 : Stmt := top 40
def ns51 : List Str := ["labels", "value", "one", "action"]
def ps51 : List Str := ["labels", "value"]
theorem sc51 : FnScope ns51 ps51 (defScope st51) := ⟨rfl, rfl, rfl, by decide +kernel, rfl, by decide +kernel, by decide +kernel⟩
theorem ck51 : chkB ge pg_k11 ns51 (defScope st51) (cellsOf (defScope st51)) fd_law_is_layer.body (defBody st51) = true := by decide +kernel
theorem atts_inj : ∀ i j, anOf atts i = anOf atts j → i = j := an_inj (by decide +kernel) (by decide +kernel)
theorem all_mk {l : PySem.W.OpenLaw} {w : World} {K : PySem.W.Frag} {h : Heap} {mg : Str → Option Value} {fa f6 f7 f8 f9 f10 f11 f12 f18 f24 f25 f26 f27 f28 f30 f31 f32 f33 f35 f36 f37 f38 f39 f40 f41 f42 f43 f44 f45 f46 f47 f48 f49 f50 f51 C4 p11 : Addr} (X : K.In h) (G : h.Ns mainGlobals mg) (hfa : mg "law" = some (.ref fa))
    {od6 an6 od7 an7 od8 an8 od9 an9 od10 an10 od11 an11 od12 an12 od18 an18 od24 an24 od25 an25 od26 an26 od27 an27 od28 an28 od30 an30 od31 an31 od32 an32 od33 an33 od35 an35 od36 an36 od37 an37 od38 an38 od39 an39 od40 an40 od41 an41 od42 an42 od43 an43 od44 an44 od45 an45 od46 an46 od47 an47 od48 an48 od49 an49 od50 an50 od51 an51 : Option Addr} {sl6 sl7 sl8 sl9 sl10 sl11 sl12 sl18 sl24 sl25 sl26 sl27 sl28 sl30 sl31 sl32 sl33 sl35 sl36 sl37 sl38 sl39 sl40 sl41 sl42 sl43 sl44 sl45 sl46 sl47 sl48 sl49 sl50 sl51 : Array (Option Value)} {oc6 kV6 dc6 pm6 cd6 ct6 oc7 kV7 dc7 pm7 cd7 ct7 oc8 kV8 dc8 pm8 cd8 ct8 oc9 kV9 dc9 pm9 cd9 ct9 oc10 kV10 dc10 pm10 cd10 ct10 oc11 kV11 dc11 pm11 cd11 ct11 oc12 kV12 dc12 pm12 cd12 ct12 oc18 kV18 dc18 pm18 cd18 ct18 oc24 kV24 dc24 pm24 cd24 ct24 oc25 kV25 dc25 pm25 cd25 ct25 oc26 kV26 dc26 pm26 cd26 ct26 oc27 kV27 dc27 pm27 cd27 ct27 oc28 kV28 dc28 pm28 cd28 ct28 oc30 kV30 dc30 pm30 cd30 ct30 oc31 kV31 dc31 pm31 cd31 ct31 oc32 kV32 dc32 pm32 cd32 ct32 oc33 kV33 dc33 pm33 cd33 ct33 oc35 kV35 dc35 pm35 cd35 ct35 oc36 kV36 dc36 pm36 cd36 ct36 oc37 kV37 dc37 pm37 cd37 ct37 oc38 kV38 dc38 pm38 cd38 ct38 oc39 kV39 dc39 pm39 cd39 ct39 oc40 kV40 dc40 pm40 cd40 ct40 oc41 kV41 dc41 pm41 cd41 ct41 oc42 kV42 dc42 pm42 cd42 ct42 oc43 kV43 dc43 pm43 cd43 ct43 oc44 kV44 dc44 pm44 cd44 ct44 oc45 kV45 dc45 pm45 cd45 ct45 oc46 kV46 dc46 pm46 cd46 ct46 oc47 kV47 dc47 pm47 cd47 ct47 oc48 kV48 dc48 pm48 cd48 ct48 oc49 kV49 dc49 pm49 cd49 ct49 oc50 kV50 dc50 pm50 cd50 ct50 oc51 kV51 dc51 pm51 cd51 ct51 : Value}
    {rs11 : List Value}
    {tc4_1 tk0 tk1 : Tok}
    (aC4 : PySem.W.nsIn K mainGlobals "Kinds" = some (some (.ref C4)))
    (pg4 : PySem.W.plainGet K C4 Str.empty = true)
    (hd4 : PySem.W.hasDictIn K C4 = true)
    (po4 : PySem.W.plainOver K C4 = true)
    (sa4 : PySem.W.findIn K (.ref C4) "__setattr__" = some (some (.builtin "object.__setattr__")))
    (mk4 : PySem.W.makesIn K C4 = true)
    (kc4 : PySem.W.keepIn K (.ref C4) = true)
    (rd4 : PySem.W.readsIn K C4 (.type "type") = true)
    (ga4 : PySem.W.specialIn K (.ref C4) "__getattribute__" = some (some (.builtin "type.__getattribute__")))
    (a6 : PySem.W.nsIn K mainGlobals "is_name" = some (some (.ref f6)))
    (l6 : K.lookup f6 = some ⟨oc6, od6, .func (PySem.W.fnOf "is_name" "is_name" (defArgs st6) (defBody st6) (defScope st6) .none kV6 dc6 pm6 an6 cd6 ct6), sl6⟩)
    (c6 : PySem.W.codeIn K cd6 "is_name" = true)
    (k6 : PySem.W.keepIn K (.ref f6) = true)
    (a7 : PySem.W.nsIn K mainGlobals "is_message" = some (some (.ref f7)))
    (l7 : K.lookup f7 = some ⟨oc7, od7, .func (PySem.W.fnOf "is_message" "is_message" (defArgs st7) (defBody st7) (defScope st7) .none kV7 dc7 pm7 an7 cd7 ct7), sl7⟩)
    (c7 : PySem.W.codeIn K cd7 "is_message" = true)
    (k7 : PySem.W.keepIn K (.ref f7) = true)
    (a8 : PySem.W.nsIn K mainGlobals "are_bases" = some (some (.ref f8)))
    (l8 : K.lookup f8 = some ⟨oc8, od8, .func (PySem.W.fnOf "are_bases" "are_bases" (defArgs st8) (defBody st8) (defScope st8) .none kV8 dc8 pm8 an8 cd8 ct8), sl8⟩)
    (c8 : PySem.W.codeIn K cd8 "are_bases" = true)
    (k8 : PySem.W.keepIn K (.ref f8) = true)
    (a9 : PySem.W.nsIn K mainGlobals "are_rows" = some (some (.ref f9)))
    (l9 : K.lookup f9 = some ⟨oc9, od9, .func (PySem.W.fnOf "are_rows" "are_rows" (defArgs st9) (defBody st9) (defScope st9) .none kV9 dc9 pm9 an9 cd9 ct9), sl9⟩)
    (c9 : PySem.W.codeIn K cd9 "are_rows" = true)
    (k9 : PySem.W.keepIn K (.ref f9) = true)
    (a10 : PySem.W.findIn K (.ref C4) "__init__" = some (some (.ref f10)))
    (i10 : PySem.W.isFn K (.ref f10) = true)
    (l10 : K.lookup f10 = some ⟨oc10, od10, .func (PySem.W.fnOf "__init__" "Kinds.__init__" (defArgs st10) (defBody st10) (defScope st10) .none kV10 dc10 pm10 an10 cd10 ct10), sl10⟩)
    (c10 : PySem.W.codeIn K cd10 "Kinds.__init__" = true)
    (k10 : PySem.W.keepIn K (.ref f10) = true)
    (a11 : PySem.W.findCls K (.ref C4) (.type "type") "of" = some (.get (.builtin "classmethod.__get__") (.ref p11) .none (.ref C4)))
    (r11 : PySem.W.recIn K p11 "classmethod" = some (.ref f11 :: rs11))
    (fi11 : PySem.W.fnIn K f11 = true)
    (l11 : K.lookup f11 = some ⟨oc11, od11, .func (PySem.W.fnOf "of" "Kinds.of" (defArgs st11) (defBody st11) (defScope st11) .none kV11 dc11 pm11 an11 cd11 ct11), sl11⟩)
    (c11 : PySem.W.codeIn K cd11 "Kinds.of" = true)
    (k11 : PySem.W.keepIn K (.ref f11) = true)
    (a12 : PySem.W.findIn K (.ref C4) "take_rows" = some (some (.ref f12)))
    (i12 : PySem.W.isFn K (.ref f12) = true)
    (l12 : K.lookup f12 = some ⟨oc12, od12, .func (PySem.W.fnOf "take_rows" "Kinds.take_rows" (defArgs st12) (defBody st12) (defScope st12) .none kV12 dc12 pm12 an12 cd12 ct12), sl12⟩)
    (c12 : PySem.W.codeIn K cd12 "Kinds.take_rows" = true)
    (k12 : PySem.W.keepIn K (.ref f12) = true)
    (a18 : PySem.W.findIn K (.ref C4) "has" = some (some (.ref f18)))
    (i18 : PySem.W.isFn K (.ref f18) = true)
    (l18 : K.lookup f18 = some ⟨oc18, od18, .func (PySem.W.fnOf "has" "Kinds.has" (defArgs st18) (defBody st18) (defScope st18) .none kV18 dc18 pm18 an18 cd18 ct18), sl18⟩)
    (c18 : PySem.W.codeIn K cd18 "Kinds.has" = true)
    (k18 : PySem.W.keepIn K (.ref f18) = true)
    (a24 : PySem.W.nsIn K mainGlobals "_law_source" = some (some (.ref f24)))
    (l24 : K.lookup f24 = some ⟨oc24, od24, .func (PySem.W.fnOf "_law_source" "_law_source" (defArgs st24) (defBody st24) (defScope st24) .none kV24 dc24 pm24 an24 cd24 ct24), sl24⟩)
    (c24 : PySem.W.codeIn K cd24 "_law_source" = true)
    (k24 : PySem.W.keepIn K (.ref f24) = true)
    (a25 : PySem.W.nsIn K mainGlobals "_law_draw" = some (some (.ref f25)))
    (l25 : K.lookup f25 = some ⟨oc25, od25, .func (PySem.W.fnOf "_law_draw" "_law_draw" (defArgs st25) (defBody st25) (defScope st25) .none kV25 dc25 pm25 an25 cd25 ct25), sl25⟩)
    (c25 : PySem.W.codeIn K cd25 "_law_draw" = true)
    (k25 : PySem.W.keepIn K (.ref f25) = true)
    (a26 : PySem.W.nsIn K mainGlobals "_law_random_names" = some (some (.ref f26)))
    (l26 : K.lookup f26 = some ⟨oc26, od26, .func (PySem.W.fnOf "_law_random_names" "_law_random_names" (defArgs st26) (defBody st26) (defScope st26) .none kV26 dc26 pm26 an26 cd26 ct26), sl26⟩)
    (c26 : PySem.W.codeIn K cd26 "_law_random_names" = true)
    (k26 : PySem.W.keepIn K (.ref f26) = true)
    (a27 : PySem.W.nsIn K mainGlobals "_law_random_lines" = some (some (.ref f27)))
    (l27 : K.lookup f27 = some ⟨oc27, od27, .func (PySem.W.fnOf "_law_random_lines" "_law_random_lines" (defArgs st27) (defBody st27) (defScope st27) .none kV27 dc27 pm27 an27 cd27 ct27), sl27⟩)
    (c27 : PySem.W.codeIn K cd27 "_law_random_lines" = true)
    (k27 : PySem.W.keepIn K (.ref f27) = true)
    (a28 : PySem.W.nsIn K mainGlobals "_law_over" = some (some (.ref f28)))
    (l28 : K.lookup f28 = some ⟨oc28, od28, .func (PySem.W.fnOf "_law_over" "_law_over" (defArgs st28) (defBody st28) (defScope st28) .none kV28 dc28 pm28 an28 cd28 ct28), sl28⟩)
    (c28 : PySem.W.codeIn K cd28 "_law_over" = true)
    (k28 : PySem.W.keepIn K (.ref f28) = true)
    (a30 : PySem.W.nsIn K mainGlobals "_law_setup" = some (some (.ref f30)))
    (l30 : K.lookup f30 = some ⟨oc30, od30, .func (PySem.W.fnOf "_law_setup" "_law_setup" (defArgs st30) (defBody st30) (defScope st30) .none kV30 dc30 pm30 an30 cd30 ct30), sl30⟩)
    (c30 : PySem.W.codeIn K cd30 "_law_setup" = true)
    (k30 : PySem.W.keepIn K (.ref f30) = true)
    (a31 : PySem.W.nsIn K mainGlobals "_law_any" = some (some (.ref f31)))
    (l31 : K.lookup f31 = some ⟨oc31, od31, .func (PySem.W.fnOf "_law_any" "_law_any" (defArgs st31) (defBody st31) (defScope st31) .none kV31 dc31 pm31 an31 cd31 ct31), sl31⟩)
    (c31 : PySem.W.codeIn K cd31 "_law_any" = true)
    (k31 : PySem.W.keepIn K (.ref f31) = true)
    (a32 : PySem.W.nsIn K mainGlobals "_law_bent" = some (some (.ref f32)))
    (l32 : K.lookup f32 = some ⟨oc32, od32, .func (PySem.W.fnOf "_law_bent" "_law_bent" (defArgs st32) (defBody st32) (defScope st32) .none kV32 dc32 pm32 an32 cd32 ct32), sl32⟩)
    (c32 : PySem.W.codeIn K cd32 "_law_bent" = true)
    (k32 : PySem.W.keepIn K (.ref f32) = true)
    (a33 : PySem.W.nsIn K mainGlobals "_law_is_message" = some (some (.ref f33)))
    (l33 : K.lookup f33 = some ⟨oc33, od33, .func (PySem.W.fnOf "_law_is_message" "_law_is_message" (defArgs st33) (defBody st33) (defScope st33) .none kV33 dc33 pm33 an33 cd33 ct33), sl33⟩)
    (c33 : PySem.W.codeIn K cd33 "_law_is_message" = true)
    (k33 : PySem.W.keepIn K (.ref f33) = true)
    (a35 : PySem.W.nsIn K mainGlobals "law" = some (some (.ref f35)))
    (l35 : K.lookup f35 = some ⟨oc35, od35, .func (PySem.W.fnOf "law" "law" (defArgs st35) (defBody st35) (defScope st35) .none kV35 dc35 pm35 an35 cd35 ct35), sl35⟩)
    (c35 : PySem.W.codeIn K cd35 "law" = true)
    (k35 : PySem.W.keepIn K (.ref f35) = true)
    (a36 : PySem.W.nsIn K mainGlobals "is_pair" = some (some (.ref f36)))
    (l36 : K.lookup f36 = some ⟨oc36, od36, .func (PySem.W.fnOf "is_pair" "is_pair" (defArgs st36) (defBody st36) (defScope st36) .none kV36 dc36 pm36 an36 cd36 ct36), sl36⟩)
    (c36 : PySem.W.codeIn K cd36 "is_pair" = true)
    (k36 : PySem.W.keepIn K (.ref f36) = true)
    (a37 : PySem.W.nsIn K mainGlobals "is_part" = some (some (.ref f37)))
    (l37 : K.lookup f37 = some ⟨oc37, od37, .func (PySem.W.fnOf "is_part" "is_part" (defArgs st37) (defBody st37) (defScope st37) .none kV37 dc37 pm37 an37 cd37 ct37), sl37⟩)
    (c37 : PySem.W.codeIn K cd37 "is_part" = true)
    (k37 : PySem.W.keepIn K (.ref f37) = true)
    (a38 : PySem.W.nsIn K mainGlobals "count_stars" = some (some (.ref f38)))
    (l38 : K.lookup f38 = some ⟨oc38, od38, .func (PySem.W.fnOf "count_stars" "count_stars" (defArgs st38) (defBody st38) (defScope st38) .none kV38 dc38 pm38 an38 cd38 ct38), sl38⟩)
    (c38 : PySem.W.codeIn K cd38 "count_stars" = true)
    (k38 : PySem.W.keepIn K (.ref f38) = true)
    (a39 : PySem.W.nsIn K mainGlobals "is_form" = some (some (.ref f39)))
    (l39 : K.lookup f39 = some ⟨oc39, od39, .func (PySem.W.fnOf "is_form" "is_form" (defArgs st39) (defBody st39) (defScope st39) .none kV39 dc39 pm39 an39 cd39 ct39), sl39⟩)
    (c39 : PySem.W.codeIn K cd39 "is_form" = true)
    (k39 : PySem.W.keepIn K (.ref f39) = true)
    (a40 : PySem.W.nsIn K mainGlobals "_law_random_form" = some (some (.ref f40)))
    (l40 : K.lookup f40 = some ⟨oc40, od40, .func (PySem.W.fnOf "_law_random_form" "_law_random_form" (defArgs st40) (defBody st40) (defScope st40) .none kV40 dc40 pm40 an40 cd40 ct40), sl40⟩)
    (c40 : PySem.W.codeIn K cd40 "_law_random_form" = true)
    (k40 : PySem.W.keepIn K (.ref f40) = true)
    (a41 : PySem.W.nsIn K mainGlobals "_law_some_labels" = some (some (.ref f41)))
    (l41 : K.lookup f41 = some ⟨oc41, od41, .func (PySem.W.fnOf "_law_some_labels" "_law_some_labels" (defArgs st41) (defBody st41) (defScope st41) .none kV41 dc41 pm41 an41 cd41 ct41), sl41⟩)
    (c41 : PySem.W.codeIn K cd41 "_law_some_labels" = true)
    (k41 : PySem.W.keepIn K (.ref f41) = true)
    (a42 : PySem.W.nsIn K mainGlobals "_law_random_layer" = some (some (.ref f42)))
    (l42 : K.lookup f42 = some ⟨oc42, od42, .func (PySem.W.fnOf "_law_random_layer" "_law_random_layer" (defArgs st42) (defBody st42) (defScope st42) .none kV42 dc42 pm42 an42 cd42 ct42), sl42⟩)
    (c42 : PySem.W.codeIn K cd42 "_law_random_layer" = true)
    (k42 : PySem.W.keepIn K (.ref f42) = true)
    (a43 : PySem.W.nsIn K mainGlobals "_law_stars" = some (some (.ref f43)))
    (l43 : K.lookup f43 = some ⟨oc43, od43, .func (PySem.W.fnOf "_law_stars" "_law_stars" (defArgs st43) (defBody st43) (defScope st43) .none kV43 dc43 pm43 an43 cd43 ct43), sl43⟩)
    (c43 : PySem.W.codeIn K cd43 "_law_stars" = true)
    (k43 : PySem.W.keepIn K (.ref f43) = true)
    (a44 : PySem.W.nsIn K mainGlobals "are_kinds" = some (some (.ref f44)))
    (l44 : K.lookup f44 = some ⟨oc44, od44, .func (PySem.W.fnOf "are_kinds" "are_kinds" (defArgs st44) (defBody st44) (defScope st44) .none kV44 dc44 pm44 an44 cd44 ct44), sl44⟩)
    (c44 : PySem.W.codeIn K cd44 "are_kinds" = true)
    (k44 : PySem.W.keepIn K (.ref f44) = true)
    (a45 : PySem.W.nsIn K mainGlobals "is_action" = some (some (.ref f45)))
    (l45 : K.lookup f45 = some ⟨oc45, od45, .func (PySem.W.fnOf "is_action" "is_action" (defArgs st45) (defBody st45) (defScope st45) .none kV45 dc45 pm45 an45 cd45 ct45), sl45⟩)
    (c45 : PySem.W.codeIn K cd45 "is_action" = true)
    (k45 : PySem.W.keepIn K (.ref f45) = true)
    (a46 : PySem.W.nsIn K mainGlobals "is_clause" = some (some (.ref f46)))
    (l46 : K.lookup f46 = some ⟨oc46, od46, .func (PySem.W.fnOf "is_clause" "is_clause" (defArgs st46) (defBody st46) (defScope st46) .none kV46 dc46 pm46 an46 cd46 ct46), sl46⟩)
    (c46 : PySem.W.codeIn K cd46 "is_clause" = true)
    (k46 : PySem.W.keepIn K (.ref f46) = true)
    (a47 : PySem.W.nsIn K mainGlobals "is_guard" = some (some (.ref f47)))
    (l47 : K.lookup f47 = some ⟨oc47, od47, .func (PySem.W.fnOf "is_guard" "is_guard" (defArgs st47) (defBody st47) (defScope st47) .none kV47 dc47 pm47 an47 cd47 ct47), sl47⟩)
    (c47 : PySem.W.codeIn K cd47 "is_guard" = true)
    (k47 : PySem.W.keepIn K (.ref f47) = true)
    (a48 : PySem.W.nsIn K mainGlobals "is_stack" = some (some (.ref f48)))
    (l48 : K.lookup f48 = some ⟨oc48, od48, .func (PySem.W.fnOf "is_stack" "is_stack" (defArgs st48) (defBody st48) (defScope st48) .none kV48 dc48 pm48 an48 cd48 ct48), sl48⟩)
    (c48 : PySem.W.codeIn K cd48 "is_stack" = true)
    (k48 : PySem.W.keepIn K (.ref f48) = true)
    (a49 : PySem.W.nsIn K mainGlobals "_law_random_layers" = some (some (.ref f49)))
    (l49 : K.lookup f49 = some ⟨oc49, od49, .func (PySem.W.fnOf "_law_random_layers" "_law_random_layers" (defArgs st49) (defBody st49) (defScope st49) .none kV49 dc49 pm49 an49 cd49 ct49), sl49⟩)
    (c49 : PySem.W.codeIn K cd49 "_law_random_layers" = true)
    (k49 : PySem.W.keepIn K (.ref f49) = true)
    (a50 : PySem.W.nsIn K mainGlobals "_law_are_labels" = some (some (.ref f50)))
    (l50 : K.lookup f50 = some ⟨oc50, od50, .func (PySem.W.fnOf "_law_are_labels" "_law_are_labels" (defArgs st50) (defBody st50) (defScope st50) .none kV50 dc50 pm50 an50 cd50 ct50), sl50⟩)
    (c50 : PySem.W.codeIn K cd50 "_law_are_labels" = true)
    (k50 : PySem.W.keepIn K (.ref f50) = true)
    (a51 : PySem.W.nsIn K mainGlobals "_law_is_layer" = some (some (.ref f51)))
    (l51 : K.lookup f51 = some ⟨oc51, od51, .func (PySem.W.fnOf "_law_is_layer" "_law_is_layer" (defArgs st51) (defBody st51) (defScope st51) .none kV51 dc51 pm51 an51 cd51 ct51), sl51⟩)
    (c51 : PySem.W.codeIn K cd51 "_law_is_layer" = true)
    (k51 : PySem.W.keepIn K (.ref f51) = true)
    (n4_18 : PySem.W.findIn K (.ref C4) "known" = some none)
    (n4_19 : PySem.W.findIn K (.ref C4) "over" = some none)
    (v4_1 : PySem.W.findIn K (.ref C4) "LIMIT" = some (some (.int 7 tc4_1)))
    (g4_1 : PySem.W.specialIn K (.int 7 tc4_1) "__get__" = some none)
    (q0 : PySem.W.nsIn K mainGlobals "MOST_LETTERS" = some (some (.int 8 tk0)))
    (q1 : PySem.W.nsIn K mainGlobals "LETTERS" = some (some (.str "abcdefghijklmnopqrstuvwxyz" tk1)))
    (z0 : PySem.W.nsIn K mainGlobals "range" = some none)
    (z1 : PySem.W.nsIn K mainGlobals "max" = some none)
    (z2 : PySem.W.nsIn K mainGlobals "min" = some none)
    (z3 : PySem.W.nsIn K mainGlobals "len" = some none)
    (z4 : PySem.W.nsIn K mainGlobals "list" = some none)
    (z5 : PySem.W.nsIn K mainGlobals "isinstance" = some none)
    (z6 : PySem.W.nsIn K mainGlobals "tuple" = some none)
    (z7 : PySem.W.nsIn K mainGlobals "all" = some none)
    (z8 : PySem.W.nsIn K mainGlobals "repr" = some none)
    (z9 : PySem.W.nsIn K mainGlobals "abs" = some none)
    (z10 : PySem.W.nsIn K mainGlobals "enumerate" = some none)
    (z11 : PySem.W.nsIn K mainGlobals "sorted" = some none)
    (z12 : PySem.W.nsIn K mainGlobals "str" = some none)
    (z13 : PySem.W.nsIn K mainGlobals "set" = some none)
    (z14 : PySem.W.nsIn K mainGlobals "int" = some none)
    (z15 : PySem.W.nsIn K mainGlobals "sum" = some none) :
    ∃ (T : Tb) (P : Pg) (i : Nat) (dd : Dd) (e : Fd), T.K = K ∧ dd.f = fa ∧ DdOk K P i dd e ∧ (∀ base : Heap, K.In base → base.Ns mainGlobals mg → Runs T P l.prog w K mg base CX0 40 i dd) ∧
      ∀ ns : List Int, ns.length ≤ 63 → (callN P 40 i [.scr (ns.map Wv.int)] []).post (fun v _ => v = .bl true) fun _ _ _ => False := by
  have ef := hfa.symm.trans (PySem.W.mg_of X G a35)
  cases ef
  let d6 : Dd := ⟨f6, PySem.W.fnOf "is_name" "is_name" (defArgs st6) (defBody st6) (defScope st6) .none kV6 dc6 pm6 an6 cd6 ct6, "is_name", "is_name", st6, ns6, ps6⟩
  let d7 : Dd := ⟨f7, PySem.W.fnOf "is_message" "is_message" (defArgs st7) (defBody st7) (defScope st7) .none kV7 dc7 pm7 an7 cd7 ct7, "is_message", "is_message", st7, ns7, ps7⟩
  let d8 : Dd := ⟨f8, PySem.W.fnOf "are_bases" "are_bases" (defArgs st8) (defBody st8) (defScope st8) .none kV8 dc8 pm8 an8 cd8 ct8, "are_bases", "are_bases", st8, ns8, ps8⟩
  let d9 : Dd := ⟨f9, PySem.W.fnOf "are_rows" "are_rows" (defArgs st9) (defBody st9) (defScope st9) .none kV9 dc9 pm9 an9 cd9 ct9, "are_rows", "are_rows", st9, ns9, ps9⟩
  let d10 : Dd := ⟨f10, PySem.W.fnOf "__init__" "Kinds.__init__" (defArgs st10) (defBody st10) (defScope st10) .none kV10 dc10 pm10 an10 cd10 ct10, "__init__", "Kinds.__init__", st10, ns10, ps10⟩
  let d11 : Dd := ⟨f11, PySem.W.fnOf "of" "Kinds.of" (defArgs st11) (defBody st11) (defScope st11) .none kV11 dc11 pm11 an11 cd11 ct11, "of", "Kinds.of", st11, ns11, ps11⟩
  let d12 : Dd := ⟨f12, PySem.W.fnOf "take_rows" "Kinds.take_rows" (defArgs st12) (defBody st12) (defScope st12) .none kV12 dc12 pm12 an12 cd12 ct12, "take_rows", "Kinds.take_rows", st12, ns12, ps12⟩
  let d18 : Dd := ⟨f18, PySem.W.fnOf "has" "Kinds.has" (defArgs st18) (defBody st18) (defScope st18) .none kV18 dc18 pm18 an18 cd18 ct18, "has", "Kinds.has", st18, ns18, ps18⟩
  let d24 : Dd := ⟨f24, PySem.W.fnOf "_law_source" "_law_source" (defArgs st24) (defBody st24) (defScope st24) .none kV24 dc24 pm24 an24 cd24 ct24, "_law_source", "_law_source", st24, ns24, ps24⟩
  let d25 : Dd := ⟨f25, PySem.W.fnOf "_law_draw" "_law_draw" (defArgs st25) (defBody st25) (defScope st25) .none kV25 dc25 pm25 an25 cd25 ct25, "_law_draw", "_law_draw", st25, ns25, ps25⟩
  let d26 : Dd := ⟨f26, PySem.W.fnOf "_law_random_names" "_law_random_names" (defArgs st26) (defBody st26) (defScope st26) .none kV26 dc26 pm26 an26 cd26 ct26, "_law_random_names", "_law_random_names", st26, ns26, ps26⟩
  let d27 : Dd := ⟨f27, PySem.W.fnOf "_law_random_lines" "_law_random_lines" (defArgs st27) (defBody st27) (defScope st27) .none kV27 dc27 pm27 an27 cd27 ct27, "_law_random_lines", "_law_random_lines", st27, ns27, ps27⟩
  let d28 : Dd := ⟨f28, PySem.W.fnOf "_law_over" "_law_over" (defArgs st28) (defBody st28) (defScope st28) .none kV28 dc28 pm28 an28 cd28 ct28, "_law_over", "_law_over", st28, ns28, ps28⟩
  let d30 : Dd := ⟨f30, PySem.W.fnOf "_law_setup" "_law_setup" (defArgs st30) (defBody st30) (defScope st30) .none kV30 dc30 pm30 an30 cd30 ct30, "_law_setup", "_law_setup", st30, ns30, ps30⟩
  let d31 : Dd := ⟨f31, PySem.W.fnOf "_law_any" "_law_any" (defArgs st31) (defBody st31) (defScope st31) .none kV31 dc31 pm31 an31 cd31 ct31, "_law_any", "_law_any", st31, ns31, ps31⟩
  let d32 : Dd := ⟨f32, PySem.W.fnOf "_law_bent" "_law_bent" (defArgs st32) (defBody st32) (defScope st32) .none kV32 dc32 pm32 an32 cd32 ct32, "_law_bent", "_law_bent", st32, ns32, ps32⟩
  let d33 : Dd := ⟨f33, PySem.W.fnOf "_law_is_message" "_law_is_message" (defArgs st33) (defBody st33) (defScope st33) .none kV33 dc33 pm33 an33 cd33 ct33, "_law_is_message", "_law_is_message", st33, ns33, ps33⟩
  let d35 : Dd := ⟨fa, PySem.W.fnOf "law" "law" (defArgs st35) (defBody st35) (defScope st35) .none kV35 dc35 pm35 an35 cd35 ct35, "law", "law", st35, ns35, ps35⟩
  let d36 : Dd := ⟨f36, PySem.W.fnOf "is_pair" "is_pair" (defArgs st36) (defBody st36) (defScope st36) .none kV36 dc36 pm36 an36 cd36 ct36, "is_pair", "is_pair", st36, ns36, ps36⟩
  let d37 : Dd := ⟨f37, PySem.W.fnOf "is_part" "is_part" (defArgs st37) (defBody st37) (defScope st37) .none kV37 dc37 pm37 an37 cd37 ct37, "is_part", "is_part", st37, ns37, ps37⟩
  let d38 : Dd := ⟨f38, PySem.W.fnOf "count_stars" "count_stars" (defArgs st38) (defBody st38) (defScope st38) .none kV38 dc38 pm38 an38 cd38 ct38, "count_stars", "count_stars", st38, ns38, ps38⟩
  let d39 : Dd := ⟨f39, PySem.W.fnOf "is_form" "is_form" (defArgs st39) (defBody st39) (defScope st39) .none kV39 dc39 pm39 an39 cd39 ct39, "is_form", "is_form", st39, ns39, ps39⟩
  let d40 : Dd := ⟨f40, PySem.W.fnOf "_law_random_form" "_law_random_form" (defArgs st40) (defBody st40) (defScope st40) .none kV40 dc40 pm40 an40 cd40 ct40, "_law_random_form", "_law_random_form", st40, ns40, ps40⟩
  let d41 : Dd := ⟨f41, PySem.W.fnOf "_law_some_labels" "_law_some_labels" (defArgs st41) (defBody st41) (defScope st41) .none kV41 dc41 pm41 an41 cd41 ct41, "_law_some_labels", "_law_some_labels", st41, ns41, ps41⟩
  let d42 : Dd := ⟨f42, PySem.W.fnOf "_law_random_layer" "_law_random_layer" (defArgs st42) (defBody st42) (defScope st42) .none kV42 dc42 pm42 an42 cd42 ct42, "_law_random_layer", "_law_random_layer", st42, ns42, ps42⟩
  let d43 : Dd := ⟨f43, PySem.W.fnOf "_law_stars" "_law_stars" (defArgs st43) (defBody st43) (defScope st43) .none kV43 dc43 pm43 an43 cd43 ct43, "_law_stars", "_law_stars", st43, ns43, ps43⟩
  let d44 : Dd := ⟨f44, PySem.W.fnOf "are_kinds" "are_kinds" (defArgs st44) (defBody st44) (defScope st44) .none kV44 dc44 pm44 an44 cd44 ct44, "are_kinds", "are_kinds", st44, ns44, ps44⟩
  let d45 : Dd := ⟨f45, PySem.W.fnOf "is_action" "is_action" (defArgs st45) (defBody st45) (defScope st45) .none kV45 dc45 pm45 an45 cd45 ct45, "is_action", "is_action", st45, ns45, ps45⟩
  let d46 : Dd := ⟨f46, PySem.W.fnOf "is_clause" "is_clause" (defArgs st46) (defBody st46) (defScope st46) .none kV46 dc46 pm46 an46 cd46 ct46, "is_clause", "is_clause", st46, ns46, ps46⟩
  let d47 : Dd := ⟨f47, PySem.W.fnOf "is_guard" "is_guard" (defArgs st47) (defBody st47) (defScope st47) .none kV47 dc47 pm47 an47 cd47 ct47, "is_guard", "is_guard", st47, ns47, ps47⟩
  let d48 : Dd := ⟨f48, PySem.W.fnOf "is_stack" "is_stack" (defArgs st48) (defBody st48) (defScope st48) .none kV48 dc48 pm48 an48 cd48 ct48, "is_stack", "is_stack", st48, ns48, ps48⟩
  let d49 : Dd := ⟨f49, PySem.W.fnOf "_law_random_layers" "_law_random_layers" (defArgs st49) (defBody st49) (defScope st49) .none kV49 dc49 pm49 an49 cd49 ct49, "_law_random_layers", "_law_random_layers", st49, ns49, ps49⟩
  let d50 : Dd := ⟨f50, PySem.W.fnOf "_law_are_labels" "_law_are_labels" (defArgs st50) (defBody st50) (defScope st50) .none kV50 dc50 pm50 an50 cd50 ct50, "_law_are_labels", "_law_are_labels", st50, ns50, ps50⟩
  let d51 : Dd := ⟨f51, PySem.W.fnOf "_law_is_layer" "_law_is_layer" (defArgs st51) (defBody st51) (defScope st51) .none kV51 dc51 pm51 an51 cd51 ct51, "_law_is_layer", "_law_is_layer", st51, ns51, ps51⟩
  let TL : List (Nat × Dd) := [(6, d6), (7, d7), (8, d8), (9, d9), (10, d10), (11, d11), (12, d12), (18, d18), (24, d24), (25, d25), (26, d26), (27, d27), (28, d28), (30, d30), (31, d31), (32, d32), (33, d33), (35, d35), (36, d36), (37, d37), (38, d38), (39, d39), (40, d40), (41, d41), (42, d42), (43, d43), (44, d44), (45, d45), (46, d46), (47, d47), (48, d48), (49, d49), (50, d50), (51, d51)]
  let T : Tb := ⟨K, fun c => (([(4, C4)] : List (Nat × Addr)).lookup c).getD 0, anOf atts⟩
  have D6 : Def1 K pg_k11 ge 6 d6 := def1 fd_is_name rfl (fun_mk (st := st6) l6 c6 k6) sc6 rfl rfl ((fun_mk (st := st6) l6 c6 k6).binds (ps := ps6) fun _ _ _ _ _ _ us hl => match us, hl with | [_], _ => rfl) ck6
  have D7 : Def1 K pg_k11 ge 7 d7 := def1 fd_is_message rfl (fun_mk (st := st7) l7 c7 k7) sc7 rfl rfl ((fun_mk (st := st7) l7 c7 k7).binds (ps := ps7) fun _ _ _ _ _ _ us hl => match us, hl with | [_], _ => rfl) ck7
  have D8 : Def1 K pg_k11 ge 8 d8 := def1 fd_are_bases rfl (fun_mk (st := st8) l8 c8 k8) sc8 rfl rfl ((fun_mk (st := st8) l8 c8 k8).binds (ps := ps8) fun _ _ _ _ _ _ us hl => match us, hl with | [_, _], _ => rfl) ck8
  have D9 : Def1 K pg_k11 ge 9 d9 := def1 fd_are_rows rfl (fun_mk (st := st9) l9 c9 k9) sc9 rfl rfl ((fun_mk (st := st9) l9 c9 k9).binds (ps := ps9) fun _ _ _ _ _ _ us hl => match us, hl with | [_], _ => rfl) ck9
  have D10 : Def1 K pg_k11 ge 10 d10 := def1 fd_Kinds_init rfl (fun_mk (st := st10) l10 c10 k10) sc10 rfl rfl ⟨["self"], "bases", rfl, fun us hl => match us, hl with | [_], _ => rfl⟩ ck10
  have D11 : Def1 K pg_k11 ge 11 d11 := def1 fd_Kinds_of rfl (fun_mk (st := st11) l11 c11 k11) sc11 rfl rfl ((fun_mk (st := st11) l11 c11 k11).binds (ps := ps11) fun _ _ _ _ _ _ us hl => match us, hl with | [_, _], _ => rfl) ck11
  have D12 : Def1 K pg_k11 ge 12 d12 := def1 fd_Kinds_take_rows rfl (fun_mk (st := st12) l12 c12 k12) sc12 rfl rfl ((fun_mk (st := st12) l12 c12 k12).binds (ps := ps12) fun _ _ _ _ _ _ us hl => match us, hl with | [_, _], _ => rfl) ck12
  have D18 : Def1 K pg_k11 ge 18 d18 := def1 fd_Kinds_has rfl (fun_mk (st := st18) l18 c18 k18) sc18 rfl rfl ((fun_mk (st := st18) l18 c18 k18).binds (ps := ps18) fun _ _ _ _ _ _ us hl => match us, hl with | [_, _], _ => rfl) ck18
  have D24 : Def1 K pg_k11 ge 24 d24 := def1 fd_law_source_v0 rfl (fun_mk (st := st24) l24 c24 k24) sc24 rfl rfl ((fun_mk (st := st24) l24 c24 k24).binds (ps := ps24) fun _ _ _ _ _ _ us hl => match us, hl with | [_, _], _ => rfl) ck24
  have D25 : Def1 K pg_k11 ge 25 d25 := def1 fd_law_draw_v0 rfl (fun_mk (st := st25) l25 c25 k25) sc25 rfl rfl ((fun_mk (st := st25) l25 c25 k25).binds (ps := ps25) fun _ _ _ _ _ _ us hl => match us, hl with | [_, _], _ => rfl) ck25
  have D26 : Def1 K pg_k11 ge 26 d26 := def1 fd_law_random_names rfl (fun_mk (st := st26) l26 c26 k26) sc26 rfl rfl ((fun_mk (st := st26) l26 c26 k26).binds (ps := ps26) fun _ _ _ _ _ _ us hl => match us, hl with | [_, _], _ => rfl) ck26
  have D27 : Def1 K pg_k11 ge 27 d27 := def1 fd_law_random_lines rfl (fun_mk (st := st27) l27 c27 k27) sc27 rfl rfl ((fun_mk (st := st27) l27 c27 k27).binds (ps := ps27) fun _ _ _ _ _ _ us hl => match us, hl with | [_, _], _ => rfl) ck27
  have D28 : Def1 K pg_k11 ge 28 d28 := def1 fd_law_over rfl (fun_mk (st := st28) l28 c28 k28) sc28 rfl rfl ((fun_mk (st := st28) l28 c28 k28).binds (ps := ps28) fun _ _ _ _ _ _ us hl => match us, hl with | [_], _ => rfl) ck28
  have D30 : Def1 K pg_k11 ge 30 d30 := def1 fd_law_setup rfl (fun_mk (st := st30) l30 c30 k30) sc30 rfl rfl ((fun_mk (st := st30) l30 c30 k30).binds (ps := ps30) fun _ _ _ _ _ _ us hl => match us, hl with | [_], _ => rfl) ck30
  have D31 : Def1 K pg_k11 ge 31 d31 := def1 fd_law_any_v2 rfl (fun_mk (st := st31) l31 c31 k31) sc31 rfl rfl ((fun_mk (st := st31) l31 c31 k31).binds (ps := ps31) fun _ _ _ _ _ _ us hl => match us, hl with | [_], _ => rfl) ck31
  have D32 : Def1 K pg_k11 ge 32 d32 := def1 fd_law_bent_v2 rfl (fun_mk (st := st32) l32 c32 k32) sc32 rfl rfl ((fun_mk (st := st32) l32 c32 k32).binds (ps := ps32) fun _ _ _ _ _ _ us hl => match us, hl with | [_, _], _ => rfl) ck32
  have D33 : Def1 K pg_k11 ge 33 d33 := def1 fd_law_is_message rfl (fun_mk (st := st33) l33 c33 k33) sc33 rfl rfl ((fun_mk (st := st33) l33 c33 k33).binds (ps := ps33) fun _ _ _ _ _ _ us hl => match us, hl with | [_], _ => rfl) ck33
  have D35 : Def1 K pg_k11 ge 35 d35 := def1 fd_law_k11 rfl (fun_mk (st := st35) l35 c35 k35) sc35 rfl rfl ((fun_mk (st := st35) l35 c35 k35).binds (ps := ps35) fun _ _ _ _ _ _ us hl => match us, hl with | [_], _ => rfl) ck35
  have D36 : Def1 K pg_k11 ge 36 d36 := def1 fd_is_pair rfl (fun_mk (st := st36) l36 c36 k36) sc36 rfl rfl ((fun_mk (st := st36) l36 c36 k36).binds (ps := ps36) fun _ _ _ _ _ _ us hl => match us, hl with | [_], _ => rfl) ck36
  have D37 : Def1 K pg_k11 ge 37 d37 := def1 fd_is_part rfl (fun_mk (st := st37) l37 c37 k37) sc37 rfl rfl ((fun_mk (st := st37) l37 c37 k37).binds (ps := ps37) fun _ _ _ _ _ _ us hl => match us, hl with | [_, _], _ => rfl) ck37
  have D38 : Def1 K pg_k11 ge 38 d38 := def1 fd_count_stars rfl (fun_mk (st := st38) l38 c38 k38) sc38 rfl rfl ((fun_mk (st := st38) l38 c38 k38).binds (ps := ps38) fun _ _ _ _ _ _ us hl => match us, hl with | [_], _ => rfl) ck38
  have D39 : Def1 K pg_k11 ge 39 d39 := def1 fd_is_form rfl (fun_mk (st := st39) l39 c39 k39) sc39 rfl rfl ((fun_mk (st := st39) l39 c39 k39).binds (ps := ps39) fun _ _ _ _ _ _ us hl => match us, hl with | [_, _], _ => rfl) ck39
  have D40 : Def1 K pg_k11 ge 40 d40 := def1 fd_law_random_form rfl (fun_mk (st := st40) l40 c40 k40) sc40 rfl rfl ((fun_mk (st := st40) l40 c40 k40).binds (ps := ps40) fun _ _ _ _ _ _ us hl => match us, hl with | [_, _, _, _], _ => rfl) ck40
  have D41 : Def1 K pg_k11 ge 41 d41 := def1 fd_law_some_labels rfl (fun_mk (st := st41) l41 c41 k41) sc41 rfl rfl ((fun_mk (st := st41) l41 c41 k41).binds (ps := ps41) fun _ _ _ _ _ _ us hl => match us, hl with | [_, _], _ => rfl) ck41
  have D42 : Def1 K pg_k11 ge 42 d42 := def1 fd_law_random_layer rfl (fun_mk (st := st42) l42 c42 k42) sc42 rfl rfl ((fun_mk (st := st42) l42 c42 k42).binds (ps := ps42) fun _ _ _ _ _ _ us hl => match us, hl with | [_, _, _], _ => rfl) ck42
  have D43 : Def1 K pg_k11 ge 43 d43 := def1 fd_law_stars rfl (fun_mk (st := st43) l43 c43 k43) sc43 rfl rfl ((fun_mk (st := st43) l43 c43 k43).binds (ps := ps43) fun _ _ _ _ _ _ us hl => match us, hl with | [_, _], _ => rfl) ck43
  have D44 : Def1 K pg_k11 ge 44 d44 := def1 fd_are_kinds rfl (fun_mk (st := st44) l44 c44 k44) sc44 rfl rfl ((fun_mk (st := st44) l44 c44 k44).binds (ps := ps44) fun _ _ _ _ _ _ us hl => match us, hl with | [_, _], _ => rfl) ck44
  have D45 : Def1 K pg_k11 ge 45 d45 := def1 fd_is_action rfl (fun_mk (st := st45) l45 c45 k45) sc45 rfl rfl ((fun_mk (st := st45) l45 c45 k45).binds (ps := ps45) fun _ _ _ _ _ _ us hl => match us, hl with | [_, _], _ => rfl) ck45
  have D46 : Def1 K pg_k11 ge 46 d46 := def1 fd_is_clause rfl (fun_mk (st := st46) l46 c46 k46) sc46 rfl rfl ((fun_mk (st := st46) l46 c46 k46).binds (ps := ps46) fun _ _ _ _ _ _ us hl => match us, hl with | [_, _], _ => rfl) ck46
  have D47 : Def1 K pg_k11 ge 47 d47 := def1 fd_is_guard rfl (fun_mk (st := st47) l47 c47 k47) sc47 rfl rfl ((fun_mk (st := st47) l47 c47 k47).binds (ps := ps47) fun _ _ _ _ _ _ us hl => match us, hl with | [_, _], _ => rfl) ck47
  have D48 : Def1 K pg_k11 ge 48 d48 := def1 fd_is_stack rfl (fun_mk (st := st48) l48 c48 k48) sc48 rfl rfl ((fun_mk (st := st48) l48 c48 k48).binds (ps := ps48) fun _ _ _ _ _ _ us hl => match us, hl with | [_, _], _ => rfl) ck48
  have D49 : Def1 K pg_k11 ge 49 d49 := def1 fd_law_random_layers rfl (fun_mk (st := st49) l49 c49 k49) sc49 rfl rfl ((fun_mk (st := st49) l49 c49 k49).binds (ps := ps49) fun _ _ _ _ _ _ us hl => match us, hl with | [_, _, _], _ => rfl) ck49
  have D50 : Def1 K pg_k11 ge 50 d50 := def1 fd_law_are_labels rfl (fun_mk (st := st50) l50 c50 k50) sc50 rfl rfl ((fun_mk (st := st50) l50 c50 k50).binds (ps := ps50) fun _ _ _ _ _ _ us hl => match us, hl with | [_, _], _ => rfl) ck50
  have D51 : Def1 K pg_k11 ge 51 d51 := def1 fd_law_is_layer rfl (fun_mk (st := st51) l51 c51 k51) sc51 rfl rfl ((fun_mk (st := st51) l51 c51 k51).binds (ps := ps51) fun _ _ _ _ _ _ us hl => match us, hl with | [_, _], _ => rfl) ck51
  have all : ∀ i d, TL.lookup i = some d → Def1 K pg_k11 ge i d := fun i d h => AllL.get (p := fun i d => Def1 K pg_k11 ge i d) (.cons (D6) (.cons (D7) (.cons (D8) (.cons (D9) (.cons (D10) (.cons (D11) (.cons (D12) (.cons (D18) (.cons (D24) (.cons (D25) (.cons (D26) (.cons (D27) (.cons (D28) (.cons (D30) (.cons (D31) (.cons (D32) (.cons (D33) (.cons (D35) (.cons (D36) (.cons (D37) (.cons (D38) (.cons (D39) (.cons (D40) (.cons (D41) (.cons (D42) (.cons (D43) (.cons (D44) (.cons (D45) (.cons (D46) (.cons (D47) (.cons (D48) (.cons (D49) (.cons (D50) (.cons (D51) (.nil))))))))))))))))))))))))))))))))))) h
  have K4 : Cls K C4 := ⟨pg4, hd4, po4, sa4⟩
  have fl : ∀ c f, pg_k11.fld c f = true → Cls K (T.ca c) ∧ NoAttr K (T.ca c) (T.an f) := fun c f h => by
    obtain ⟨u, h⟩ := Option.isSome_iff_exists.mp h
    exact AllL.get (p := fun (x : Nat × Nat) (_ : Unit) => Cls K (T.ca x.1) ∧ NoAttr K (T.ca x.1) (T.an x.2)) (l := fls_k11) (.cons (⟨K4, n4_18⟩) (.cons (⟨K4, n4_19⟩) (.nil))) h
  have tb : TbOk T pg_k11 := ⟨atts_inj, fun c f h => (fl c f h).1, fun c f h => (fl c f h).2, fun c f w h => AllL.get (p := fun (x : Nat × Nat) (w : Wv) => Cls K (T.ca x.1) ∧ ∃ v u, Con K (T.ca x.1) (T.an x.2) v u ∧ ∀ is H, RW T is H w v) (l := cns_k11) (.cons (⟨K4, _, _, ⟨v4_1, rel_int, g4_1, (show PySem.W.copiedNames.contains ("LIMIT" : Str) = false by decide +kernel)⟩, fun _ _ => rw_int⟩) (.nil)) h⟩
  have gk : Gok T pg_k11 (fun i => TL.lookup i) ge mg := {
    blt := fun x h => All1.get (p := fun x => mg x = none) (l := geB) (.cons (PySem.W.mg_none_of X G z0) (.cons (PySem.W.mg_none_of X G z1) (.cons (PySem.W.mg_none_of X G z2) (.cons (PySem.W.mg_none_of X G z3) (.cons (PySem.W.mg_none_of X G z4) (.cons (PySem.W.mg_none_of X G z5) (.cons (PySem.W.mg_none_of X G z6) (.cons (PySem.W.mg_none_of X G z7) (.cons (PySem.W.mg_none_of X G z8) (.cons (PySem.W.mg_none_of X G z9) (.cons (PySem.W.mg_none_of X G z10) (.cons (PySem.W.mg_none_of X G z11) (.cons (PySem.W.mg_none_of X G z12) (.cons (PySem.W.mg_none_of X G z13) (.cons (PySem.W.mg_none_of X G z14) (.cons (PySem.W.mg_none_of X G z15) (.nil))))))))))))))))) h
    fn := fun x i h => AllL.get (p := fun x i => ∃ d, TL.lookup i = some d ∧ mg x = some (.ref d.f)) (l := geF) (.cons (⟨_, rfl, PySem.W.mg_of X G a6⟩) (.cons (⟨_, rfl, PySem.W.mg_of X G a7⟩) (.cons (⟨_, rfl, PySem.W.mg_of X G a8⟩) (.cons (⟨_, rfl, PySem.W.mg_of X G a9⟩) (.cons (⟨_, rfl, PySem.W.mg_of X G a24⟩) (.cons (⟨_, rfl, PySem.W.mg_of X G a25⟩) (.cons (⟨_, rfl, PySem.W.mg_of X G a26⟩) (.cons (⟨_, rfl, PySem.W.mg_of X G a27⟩) (.cons (⟨_, rfl, PySem.W.mg_of X G a28⟩) (.cons (⟨_, rfl, PySem.W.mg_of X G a30⟩) (.cons (⟨_, rfl, PySem.W.mg_of X G a31⟩) (.cons (⟨_, rfl, PySem.W.mg_of X G a32⟩) (.cons (⟨_, rfl, PySem.W.mg_of X G a33⟩) (.cons (⟨_, rfl, PySem.W.mg_of X G a35⟩) (.cons (⟨_, rfl, PySem.W.mg_of X G a36⟩) (.cons (⟨_, rfl, PySem.W.mg_of X G a37⟩) (.cons (⟨_, rfl, PySem.W.mg_of X G a38⟩) (.cons (⟨_, rfl, PySem.W.mg_of X G a39⟩) (.cons (⟨_, rfl, PySem.W.mg_of X G a40⟩) (.cons (⟨_, rfl, PySem.W.mg_of X G a41⟩) (.cons (⟨_, rfl, PySem.W.mg_of X G a42⟩) (.cons (⟨_, rfl, PySem.W.mg_of X G a43⟩) (.cons (⟨_, rfl, PySem.W.mg_of X G a44⟩) (.cons (⟨_, rfl, PySem.W.mg_of X G a45⟩) (.cons (⟨_, rfl, PySem.W.mg_of X G a46⟩) (.cons (⟨_, rfl, PySem.W.mg_of X G a47⟩) (.cons (⟨_, rfl, PySem.W.mg_of X G a48⟩) (.cons (⟨_, rfl, PySem.W.mg_of X G a49⟩) (.cons (⟨_, rfl, PySem.W.mg_of X G a50⟩) (.cons (⟨_, rfl, PySem.W.mg_of X G a51⟩) (.nil))))))))))))))))))))))))))))))) h
    con := fun x w h => AllL.get (p := fun x w => ∃ v u, mg x = some u ∧ RelV v u ∧ ∀ is H, RW T is H w v) (l := geC) (.cons (⟨_, _, PySem.W.mg_of X G q0, rel_int, fun _ _ => rw_int⟩) (.cons (⟨_, _, PySem.W.mg_of X G q1, rel_str, fun _ _ => rw_str⟩) (.cons (⟨_, _, PySem.W.mg_of X G aC4, rel_ref, fun _ _ => rw_cls rfl⟩) (.nil)))) h
    an := fun i x h => an_at h
    kw := fun i ks pm h => All1.get (p := fun (x : Nat × List Str × List Nat) => (∀ d, TL.lookup x.1 = some d → KwOk d 0 x.2.1 x.2.2) ∧ ∀ e, pg_k11.fn x.1 = some e → e.kw = false) (l := geK) (.cons (⟨fun d h => by
      cases h
      exact fun us ws zs h1 h2 h3 => match us, ws, h1, h2, h3 with | [], [w0, w1], _, _, h3 => by cases h3; rfl, fun e h => by
      cases h
      rfl⟩) (.nil)) h
    mt := ⟨fun c m i h => AllL.get (p := fun (x : Nat × Nat) i => ∃ d, TL.lookup i = some d ∧ ((Cls K (T.ca x.1) ∧ Meth K (T.ca x.1) (T.an x.2) d.f) ∨ False)) (l := mts_k11) (.cons (⟨_, rfl, .inl ⟨K4, a12, i12, k12⟩⟩) (.cons (⟨_, rfl, .inl ⟨K4, a18, i18, k18⟩⟩) (.nil))) h⟩
    cm := ⟨fun c m i h => AllL.get (p := fun (x : Nat × Nat) i => ∃ d mc p, TL.lookup i = some d ∧ ClX.CRead K (T.ca x.1) mc ∧ ClX.CMet K (T.ca x.1) mc (T.an x.2) p d.f) (l := cms_k11) (.cons (⟨_, _, _, rfl, ⟨rd4, ga4⟩, ⟨a11, ⟨_, r11⟩, fi11⟩⟩) (.nil)) h,
      fun c i h => AllL.get (p := fun c i => ∃ d, TL.lookup i = some d ∧ Mk K (T.ca c) d.f) (l := ins_k11) (.cons (⟨_, rfl, ⟨mk4, a10, i10, kc4⟩⟩) (.nil)) h⟩ }
  obtain ⟨e, ok, _⟩ := D35.ex
  exact ⟨T, pg_k11, 35, d35, e, rfl, rfl, ok, fun base _ _ => runs_all rfl tb gk all 40 35 d35 rfl, run_k11⟩
end Pe
open PySem PySem.W PyProof.Rows
set_option maxRecDepth 100000 in
set_option maxHeartbeats 0 in
theorem PySem.Challenge.cw_errorplaces_k11_is_stack_holds : PySem.Challenge.rw_errorplaces_k11_is_stack.Holds := by
  w_on; o_law; k_head; (case hw => w_witness2)
  k_fill
  refine Pe.walk (l := PySem.Challenge.rw_errorplaces_k11_is_stack) (k := 40) rfl rfl (by decide) (fun w h Y => PySem.W.kIn_of Y) ?F
  case F =>
    intro w mg fa h KX G hmg
    refine' Pe.all_mk KX G hmg ?aC4 ?pg4 ?hd4 ?po4 ?sa4 ?mk4 ?kc4 ?rd4 ?ga4 ?a6 ?l6 ?c6 ?k6 ?a7 ?l7 ?c7 ?k7 ?a8 ?l8 ?c8 ?k8 ?a9 ?l9 ?c9 ?k9 ?a10 ?i10 ?l10 ?c10 ?k10 ?a11 ?r11 ?fi11 ?l11 ?c11 ?k11 ?a12 ?i12 ?l12 ?c12 ?k12 ?a18 ?i18 ?l18 ?c18 ?k18 ?a24 ?l24 ?c24 ?k24 ?a25 ?l25 ?c25 ?k25 ?a26 ?l26 ?c26 ?k26 ?a27 ?l27 ?c27 ?k27 ?a28 ?l28 ?c28 ?k28 ?a30 ?l30 ?c30 ?k30 ?a31 ?l31 ?c31 ?k31 ?a32 ?l32 ?c32 ?k32 ?a33 ?l33 ?c33 ?k33 ?a35 ?l35 ?c35 ?k35 ?a36 ?l36 ?c36 ?k36 ?a37 ?l37 ?c37 ?k37 ?a38 ?l38 ?c38 ?k38 ?a39 ?l39 ?c39 ?k39 ?a40 ?l40 ?c40 ?k40 ?a41 ?l41 ?c41 ?k41 ?a42 ?l42 ?c42 ?k42 ?a43 ?l43 ?c43 ?k43 ?a44 ?l44 ?c44 ?k44 ?a45 ?l45 ?c45 ?k45 ?a46 ?l46 ?c46 ?k46 ?a47 ?l47 ?c47 ?k47 ?a48 ?l48 ?c48 ?k48 ?a49 ?l49 ?c49 ?k49 ?a50 ?l50 ?c50 ?k50 ?a51 ?l51 ?c51 ?k51 ?n4_18 ?n4_19 ?v4_1 ?g4_1 ?q0 ?q1 ?z0 ?z1 ?z2 ?z3 ?z4 ?z5 ?z6 ?z7 ?z8 ?z9 ?z10 ?z11 ?z12 ?z13 ?z14 ?z15
    (case aC4 => k_is)
    (case pg4 => k_is)
    (case hd4 => k_is)
    (case po4 => k_is)
    (case sa4 => k_is)
    (case mk4 => k_is)
    (case kc4 => k_is)
    (case rd4 => k_is)
    (case ga4 => k_is)
    (case a6 => k_is)
    (case l6 => k_is)
    (case c6 => k_is)
    (case k6 => k_is)
    (case a7 => k_is)
    (case l7 => k_is)
    (case c7 => k_is)
    (case k7 => k_is)
    (case a8 => k_is)
    (case l8 => k_is)
    (case c8 => k_is)
    (case k8 => k_is)
    (case a9 => k_is)
    (case l9 => k_is)
    (case c9 => k_is)
    (case k9 => k_is)
    (case a10 => k_is)
    (case i10 => k_is)
    (case l10 => k_is)
    (case c10 => k_is)
    (case k10 => k_is)
    (case a11 => k_is)
    (case r11 => k_is)
    (case fi11 => k_is)
    (case l11 => k_is)
    (case c11 => k_is)
    (case k11 => k_is)
    (case a12 => k_is)
    (case i12 => k_is)
    (case l12 => k_is)
    (case c12 => k_is)
    (case k12 => k_is)
    (case a18 => k_is)
    (case i18 => k_is)
    (case l18 => k_is)
    (case c18 => k_is)
    (case k18 => k_is)
    (case a24 => k_is)
    (case l24 => k_is)
    (case c24 => k_is)
    (case k24 => k_is)
    (case a25 => k_is)
    (case l25 => k_is)
    (case c25 => k_is)
    (case k25 => k_is)
    (case a26 => k_is)
    (case l26 => k_is)
    (case c26 => k_is)
    (case k26 => k_is)
    (case a27 => k_is)
    (case l27 => k_is)
    (case c27 => k_is)
    (case k27 => k_is)
    (case a28 => k_is)
    (case l28 => k_is)
    (case c28 => k_is)
    (case k28 => k_is)
    (case a30 => k_is)
    (case l30 => k_is)
    (case c30 => k_is)
    (case k30 => k_is)
    (case a31 => k_is)
    (case l31 => k_is)
    (case c31 => k_is)
    (case k31 => k_is)
    (case a32 => k_is)
    (case l32 => k_is)
    (case c32 => k_is)
    (case k32 => k_is)
    (case a33 => k_is)
    (case l33 => k_is)
    (case c33 => k_is)
    (case k33 => k_is)
    (case a35 => k_is)
    (case l35 => k_is)
    (case c35 => k_is)
    (case k35 => k_is)
    (case a36 => k_is)
    (case l36 => k_is)
    (case c36 => k_is)
    (case k36 => k_is)
    (case a37 => k_is)
    (case l37 => k_is)
    (case c37 => k_is)
    (case k37 => k_is)
    (case a38 => k_is)
    (case l38 => k_is)
    (case c38 => k_is)
    (case k38 => k_is)
    (case a39 => k_is)
    (case l39 => k_is)
    (case c39 => k_is)
    (case k39 => k_is)
    (case a40 => k_is)
    (case l40 => k_is)
    (case c40 => k_is)
    (case k40 => k_is)
    (case a41 => k_is)
    (case l41 => k_is)
    (case c41 => k_is)
    (case k41 => k_is)
    (case a42 => k_is)
    (case l42 => k_is)
    (case c42 => k_is)
    (case k42 => k_is)
    (case a43 => k_is)
    (case l43 => k_is)
    (case c43 => k_is)
    (case k43 => k_is)
    (case a44 => k_is)
    (case l44 => k_is)
    (case c44 => k_is)
    (case k44 => k_is)
    (case a45 => k_is)
    (case l45 => k_is)
    (case c45 => k_is)
    (case k45 => k_is)
    (case a46 => k_is)
    (case l46 => k_is)
    (case c46 => k_is)
    (case k46 => k_is)
    (case a47 => k_is)
    (case l47 => k_is)
    (case c47 => k_is)
    (case k47 => k_is)
    (case a48 => k_is)
    (case l48 => k_is)
    (case c48 => k_is)
    (case k48 => k_is)
    (case a49 => k_is)
    (case l49 => k_is)
    (case c49 => k_is)
    (case k49 => k_is)
    (case a50 => k_is)
    (case l50 => k_is)
    (case c50 => k_is)
    (case k50 => k_is)
    (case a51 => k_is)
    (case l51 => k_is)
    (case c51 => k_is)
    (case k51 => k_is)
    (case n4_18 => k_is)
    (case n4_19 => k_is)
    (case v4_1 => k_is)
    (case g4_1 => k_is)
    (case q0 => k_is)
    (case q1 => k_is)
    (case z0 => k_is)
    (case z1 => k_is)
    (case z2 => k_is)
    (case z3 => k_is)
    (case z4 => k_is)
    (case z5 => k_is)
    (case z6 => k_is)
    (case z7 => k_is)
    (case z8 => k_is)
    (case z9 => k_is)
    (case z10 => k_is)
    (case z11 => k_is)
    (case z12 => k_is)
    (case z13 => k_is)
    (case z14 => k_is)
    (case z15 => k_is)
