import PyProof.Rows.All
import Wide.All
import OpenK.AllK
import Wide.FinOn
import PySem.PyData
import HandS.ForMost
import HandS.Wide
import KE.KeyNested
import HandS.Lambda
import HandS.Nested
import HandS.TupAny
import HandS.IsInst
import HandS.Deep
import HandS.SortInts
import HandS.Walk
import HandS.NoneIn
import HandS.Zip
import HandS.Rev
import HandS.RevRange
import HandS.Style
import HandS.HeadHook4
import HandS.Defaults
import HandS.WideBits
import HandS.Head0
import HandS.Head1
import HandS.Head2
import HandS.HeadEnd
import HandS.HeadHook1
import HandS.HeadHook2
import HandS.Strs
import HandS.Set
import HandS.SetFor
import HandS.Sort
import HandS.TupSets
import HandS.Conv
import KE.GoesMore
import HandS.SetKeys
import HandS.TupLe
import HandS.TupLen
import PyProof.StrOps2
import KE.KDictZip
import PyProof.ListNew
import PySem.Challenge.RW_turnguard_k21_values
set_option Elab.async false
set_option linter.all false
set_option maxRecDepth 99999
set_option maxHeartbeats 9000000
namespace Tg
open PySem

/-- what a value is, as a tree; o: it may be changed by whoever has it -/
inductive D where
  | non
  | bl (b : Bool)
  | int (i : Int)
  | str (x : List Nat)
  | tup (xs : List D)
  | lst (o : Bool) (xs : List D)
  | dic (o : Bool) (k : Nat) (kvs : List (D × D))
  | obj (o : Bool) (c : Nat) (fs : List (Str × D))
  /-- the law's script, as it is handed in -/
  | scr (ns : List Int)
  | hole
  deriving Inhabited

/-! ### what may be handed on as it is; frozen; no frozen part -/
mutual
def D.sh : D → Bool
  | .tup xs => D.shs xs
  | .lst o _ => !o
  | .dic o _ _ => !o
  | .obj o _ _ => !o
  | _ => true
def D.shs : List D → Bool
  | [] => true
  | x :: xs => D.sh x && D.shs xs
end
mutual
def D.fz : D → D
  | .tup xs => .tup (D.fzs xs)
  | .lst o xs => if o then .lst false (D.fzs xs) else .lst o xs
  | .dic o k kvs => if o then .dic false k (D.fzk kvs) else .dic o k kvs
  | .obj o c fs => if o then .obj false c (D.fzf fs) else .obj o c fs
  | d => d
def D.fzs : List D → List D
  | [] => []
  | x :: xs => D.fz x :: D.fzs xs
def D.fzk : List (D × D) → List (D × D)
  | [] => []
  | (k, x) :: xs => (k, D.fz x) :: D.fzk xs
def D.fzf : List (Str × D) → List (Str × D)
  | [] => []
  | (k, x) :: xs => (k, D.fz x) :: D.fzf xs
end
mutual
def D.nf : D → Bool
  | .tup xs => D.nfs xs
  | .lst o xs => o && D.nfs xs
  | .dic o _ kvs => o && D.nfk kvs
  | .obj o _ fs => o && D.nff fs
  | .scr _ => false
  | _ => true
def D.nfs : List D → Bool
  | [] => true
  | x :: xs => D.nf x && D.nfs xs
def D.nfk : List (D × D) → Bool
  | [] => true
  | (_, x) :: xs => D.nf x && D.nfk xs
def D.nff : List (Str × D) → Bool
  | [] => true
  | (_, x) :: xs => D.nf x && D.nff xs
end
/-! ### equality as the program's == tells it -/
mutual
def D.eqv : D → D → Bool
  | .non, .non => true
  | .bl a, .bl b => a == b
  | .bl a, .int j => (if a then 1 else 0) == j
  | .int i, .bl b => i == (if b then 1 else 0)
  | .int i, .int j => i == j
  | .str x, .str y => x == y
  | .lst _ xs, .lst _ ys => D.eqvs xs ys
  | .tup xs, .tup ys => D.eqvs xs ys
  | _, _ => false
def D.eqvs : List D → List D → Bool
  | [], [] => true
  | x :: xs, y :: ys => D.eqv x y && D.eqvs xs ys
  | _, _ => false
end
/-! what == may be asked of, at a depth of at most n -/
mutual
def D.eqok : Nat → D → Bool
  | _, .non => true
  | _, .bl _ => true
  | _, .int _ => true
  | _, .str x => x.all fun c => decide (c < 1114112)
  | n + 1, .lst _ xs => D.eqoks n xs
  | n + 1, .tup xs => D.eqoks n xs
  | _, _ => false
def D.eqoks : Nat → List D → Bool
  | _, [] => true
  | n, x :: xs => D.eqok n x && D.eqoks n xs
end
theorem D.shs_eq (xs : List D) : D.shs xs = xs.all D.sh := by
  induction xs with
  | nil => rfl
  | cons x xs ih => show (D.sh x && D.shs xs) = _; rw [ih]; rfl
theorem D.fzs_eq (xs : List D) : D.fzs xs = xs.map D.fz := by
  induction xs with
  | nil => rfl
  | cons x xs ih => show D.fz x :: D.fzs xs = _; rw [ih]; rfl
theorem D.nfs_eq (xs : List D) : D.nfs xs = xs.all D.nf := by
  induction xs with
  | nil => rfl
  | cons x xs ih => show (D.nf x && D.nfs xs) = _; rw [ih]; rfl
mutual
theorem D.fz_sh : ∀ d : D, d.sh = true → d.fz = d
  | .non, _ => rfl
  | .bl _, _ => rfl
  | .int _, _ => rfl
  | .str _, _ => rfl
  | .hole, _ => rfl
  | .scr _, _ => rfl
  | .tup xs, h => by
    show D.tup (D.fzs xs) = _
    rw [D.fzs_sh xs h]
  | .lst o xs, h => by
    cases o with
    | false => rfl
    | true => cases h
  | .dic o _ _, h => by
    cases o with
    | false => rfl
    | true => cases h
  | .obj o _ _, h => by
    cases o with
    | false => rfl
    | true => cases h
theorem D.fzs_sh : ∀ xs : List D, D.shs xs = true → D.fzs xs = xs
  | [], _ => rfl
  | x :: xs, h => by
    have h' : (x.sh && D.shs xs) = true := h
    rw [Bool.and_eq_true] at h'
    show x.fz :: D.fzs xs = _
    rw [D.fz_sh x h'.1, D.fzs_sh xs h'.2]
end

/-! ### states, flows, what an expression, a statement does -/
abbrev Env := List D
inductive Fl where
  | nx (e : Env)
  | rt (d : D) (e : Env)
  | bk (e : Env)
  | ct (e : Env)
abbrev EE := Env → Option D
abbrev EA := Env → Option (List D)
abbrev SS := Env → Option Fl
/-- f called with these: what it hands back, and the parameters that it may change, behind it -/
abbrev Call := Nat → List D → Option (D × List D)

/-! ### places in lists -/
def ixD (n : Nat) (i : Int) : Option Nat := if 0 ≤ i then (if i < n then some i.toNat else none) else if -(n : Int) ≤ i then some (i + n).toNat else none
def atD {α : Type} (xs : List α) (i : Int) : Option α := (ixD xs.length i).bind fun j => xs[j]?
def cutI (n d : Nat) : Option Int → Nat
  | none => d
  | some v => if v < 0 then (max (v + (n : Int)) 0).toNat else min v.toNat n
def cutD {α : Type} (xs : List α) (lo hi : Option Int) : List α := (xs.drop (cutI xs.length 0 lo)).take (cutI xs.length xs.length hi - cutI xs.length 0 lo)
/-- the longest list, the longest text -/
def line : Nat := 16777216

/-! ### expressions -/
def eVar (i : Nat) : EE := fun env => match env[i]? with
  | some .hole => none
  | some d => some d
  | none => none
def eC (d : D) : EE := fun _ => some d
/-- a path's value where it is handed on -/
def eSh (f : EE) : EE := fun env => (f env).bind fun d => if d.sh then some d else none
def eOp (g : D → D → Option D) (a b : EE) : EE := fun env => (a env).bind fun x => (b env).bind fun y => g x y
def eUn (g : D → Option D) (a : EE) : EE := fun env => (a env).bind g
def eAnd (a b : EE) : EE := fun env => match a env with
  | some (.bl true) => b env
  | some (.bl false) => some (.bl false)
  | _ => none
def eOr (a b : EE) : EE := fun env => match a env with
  | some (.bl false) => b env
  | some (.bl true) => some (.bl true)
  | _ => none
def eIf (c a b : EE) : EE := fun env => match c env with
  | some (.bl true) => a env
  | some (.bl false) => b env
  | _ => none
def eNil : EA := fun _ => some []
def eCons (a : EE) (as : EA) : EA := fun env => (a env).bind fun x => (as env).bind fun xs => some (x :: xs)
def eTup (as : EA) : EE := fun env => (as env).bind fun xs => some (.tup xs)
def eLst (as : EA) : EE := fun env => (as env).bind fun xs => some (.lst true xs)

def gAdd : D → D → Option D
  | .int i, .int j => some (.int (i + j))
  | .str x, .str y => if x.length + y.length ≤ line then some (.str (x ++ y)) else none
  | .lst _ xs, .lst _ ys => if D.shs xs && D.shs ys && decide (xs.length + ys.length ≤ line) then some (.lst true (xs ++ ys)) else none
  | .tup xs, .tup ys => if D.shs xs && D.shs ys && decide (xs.length + ys.length ≤ line) then some (.tup (xs ++ ys)) else none
  | _, _ => none
def gSub : D → D → Option D
  | .int i, .int j => some (.int (i - j))
  | _, _ => none
def gMul : D → D → Option D
  | .int i, .int j => if i.natAbs.log2 + j.natAbs.log2 < 1000000 ∨ (-(2 ^ 64) < i ∧ i < 2 ^ 64) ∨ (-(2 ^ 64) < j ∧ j < 2 ^ 64) then some (.int (i * j)) else none
  | .lst _ xs, .int k => if D.shs xs && decide (-(2 ^ 63) ≤ k ∧ k < 2 ^ 63 ∧ xs.length * k.toNat ≤ line) then some (.lst true (List.replicate k.toNat xs).flatten) else none
  | _, _ => none
def gDiv : D → D → Option D
  | .int i, .int j => if 0 < j ∧ (j < 1073741824 ∨ j.natAbs.log2 < 9000) then some (.int (i / j)) else none
  | _, _ => none
def gMod : D → D → Option D
  | .int i, .int j => if 0 < j then some (.int (i % j)) else none
  | _, _ => none
def gPow : D → D → Option D
  | .int i, .int j => if 0 ≤ j ∧ j ≤ 1000000 ∧ i.natAbs < 2 ^ 64 then some (.int (i ^ j.toNat)) else none
  | _, _ => none
def gShl : D → D → Option D
  | .int i, .int j => if 0 ≤ j ∧ j ≤ 1000000 ∧ i.natAbs < 2 ^ 64 then some (.int (i * 2 ^ j.toNat)) else none
  | _, _ => none
def gShr : D → D → Option D
  | .int i, .int j => if 0 ≤ j then some (.int (i / 2 ^ j.toNat)) else none
  | _, _ => none
def gAndB : D → D → Option D
  | .int i, .int j => if 0 ≤ i ∧ 0 ≤ j then some (.int ((i.toNat &&& j.toNat : Nat) : Int)) else none
  | _, _ => none
def gOrB : D → D → Option D
  | .int i, .int j => if 0 ≤ i ∧ 0 ≤ j then some (.int ((i.toNat ||| j.toNat : Nat) : Int)) else none
  | _, _ => none
def gXorB : D → D → Option D
  | .int i, .int j => if 0 ≤ i ∧ 0 ≤ j then some (.int ((i.toNat ^^^ j.toNat : Nat) : Int)) else none
  | _, _ => none
def gNeg : D → Option D
  | .int i => some (.int (-i))
  | _ => none
def gNot : D → Option D
  | .bl b => some (.bl (!b))
  | _ => none
def gLt : D → D → Option D
  | .int i, .int j => some (.bl (decide (i < j)))
  | _, _ => none
def gLe : D → D → Option D
  | .int i, .int j => some (.bl (decide (i ≤ j)))
  | _, _ => none
def gGt : D → D → Option D
  | .int i, .int j => some (.bl (decide (j < i)))
  | _, _ => none
def gGe : D → D → Option D
  | .int i, .int j => some (.bl (decide (j ≤ i)))
  | _, _ => none
/-- two texts, any other two things at a depth of at most 60 -/
def eqD : D → D → Option Bool
  | .str x, .str y => some (x == y)
  | x, y => if D.eqok 60 x && D.eqok 60 y then some (D.eqv x y) else none
def gEq : D → D → Option D := fun x y => (eqD x y).map .bl
def gNe : D → D → Option D := fun x y => (eqD x y).map fun b => .bl (!b)
/-- a built-in type -/
inductive Ty where
  | int | bool | tuple | list | str | dict
def isI : Ty → D → Option Bool
  | _, .hole => none
  | _, .scr _ => none
  | _, .obj _ _ _ => none
  | _, .dic _ 2 _ => none
  | .int, .int _ => some true
  | .int, .bl _ => some true
  | .bool, .bl _ => some true
  | .tuple, .tup _ => some true
  | .list, .lst _ _ => some true
  | .str, .str _ => some true
  | .dict, .dic _ _ _ => some true
  | _, _ => some false
def eInst (t : Ty) (a : EE) : EE := fun env => (a env).bind fun d => (isI t d).map .bl
def isNon : D → Bool
  | .non => true
  | _ => false
def gIsN : D → Option D
  | .hole => none
  | d => some (.bl (isNon d))
def gNotN : D → Option D
  | .hole => none
  | d => some (.bl (!isNon d))
def flat : D → Bool
  | .non => true
  | .bl _ => true
  | .int _ => true
  | .str _ => true
  | _ => false
/-- one sign in a text; a flat thing in a list or tuple of such -/
def inD : D → D → Option Bool
  | .str [c], .str z => some (decide (c ∈ z))
  | x, .tup xs => if flat x && xs.all flat then some (xs.any fun y => D.eqv y x) else none
  | x, .lst _ xs => if flat x && xs.all flat then some (xs.any fun y => D.eqv y x) else none
  | _, _ => none
def gIn : D → D → Option D := fun x y => (inD x y).map .bl
def gNotIn : D → D → Option D := fun x y => (inD x y).map fun b => .bl (!b)
def gIx : D → D → Option D
  | .tup xs, .int i => atD xs i
  | .lst _ xs, .int i => atD xs i
  | .str x, .int i => if x.length ≤ line then (atD x i).map fun c => .str [c] else none
  | .scr ns, .int i => (atD ns i).map .int
  | _, _ => none
def gLen : D → Option D
  | .tup xs => some (.int xs.length)
  | .lst _ xs => some (.int xs.length)
  | .str x => if x.length ≤ line then some (.int x.length) else none
  | .scr ns => some (.int ns.length)
  | _ => none
def gList : D → Option D
  | .tup xs => if D.shs xs then some (.lst true xs) else none
  | .lst _ xs => if D.shs xs then some (.lst true xs) else none
  | .scr ns => some (.lst true (ns.map .int))
  | _ => none
def gTuple : D → Option D
  | .tup xs => if D.shs xs then some (.tup xs) else none
  | .lst _ xs => if D.shs xs then some (.tup xs) else none
  | _ => none
def gInt : D → Option D
  | .int i => some (.int i)
  | .bl b => some (.int (if b then 1 else 0))
  | _ => none
def gPart : D → Option Int
  | .int i => some i
  | _ => none
def gCut (lo hi : Option Int) : D → Option D
  | .lst _ xs => if D.shs xs then some (.lst true (cutD xs lo hi)) else none
  | .scr ns => some (.lst true ((cutD ns lo hi).map .int))
  | .str x => if x.length ≤ line then some (.str (cutD x lo hi)) else none
  | .tup xs => if D.shs xs then some (.tup (cutD xs lo hi)) else none
  | _ => none
def pNone : Env → Option (Option Int) := fun _ => some none
def pSome (a : EE) : Env → Option (Option Int) := fun env => ((a env).bind gPart).map some
def eCut (a : EE) (lo hi : Env → Option (Option Int)) : EE := fun env => (a env).bind fun x => (lo env).bind fun l => (hi env).bind fun h => gCut l h x
/-- two comparisons in a chain -/
def eChain (g h : D → D → Option D) (a b c : EE) : EE := fun env => (a env).bind fun x => (b env).bind fun y => match g x y with
  | some (.bl true) => (c env).bind fun z => h y z
  | some (.bl false) => some (.bl false)
  | _ => none
/-- a call that changes nothing handed in -/
def eCall (call : Call) (f : Nat) (as : EA) : EE := fun env => (as env).bind fun ds => (call f (D.fzs ds)).map (·.1)
/-- .. things that one has oneself are lent to it -/
def eCallB (call : Call) (f : Nat) (as : EA) : EE := fun env => (as env).bind fun ds => (call f (D.fzs ds)).bind fun r => if D.nf r.1 then some r.1 else none

/-! ### what is walked -/
abbrev It := Env → Option (List D)
def items : D → Option (List D)
  | .lst _ xs => if D.shs xs then some xs else none
  | .tup xs => if D.shs xs then some xs else none
  | .str x => some (x.map fun c => .str [c])
  | .scr ns => some (ns.map .int)
  | _ => none
def iSeq (a : EE) : It := fun env => (a env).bind items
def small62 (i : Int) : Bool := decide (-(2 ^ 62) ≤ i ∧ i < 2 ^ 62)
def iRng (a : EE) : It := fun env => match a env with
  | some (.int n) => if small62 n then some ((List.range n.toNat).map fun (k : Nat) => .int (k : Int)) else none
  | _ => none
def iRng2 (a b : EE) : It := fun env => match a env, b env with
  | some (.int m), some (.int n) => if small62 m && small62 n then some ((List.range (n - m).toNat).map fun (k : Nat) => .int (m + (k : Int))) else none
  | _, _ => none
def iEnum (a : EE) : It := fun env => (a env).bind fun d => match d with
  | .lst _ xs => if D.shs xs then some ((List.range xs.length).zipWith (fun (k : Nat) x => .tup [.int (k : Int), x]) xs) else none
  | _ => none
def iZip (a b : EE) : It := fun env => (a env).bind fun d => (b env).bind fun e => match d, e with
  | .lst _ xs, .lst _ ys => if D.shs xs && D.shs ys then some (List.zipWith (fun x y => .tup [x, y]) xs ys) else none
  | _, _ => none

/-! ### targets -/
abbrev TgT := D → Env → Option Env
def tgN (i : Nat) : TgT := fun d env => if i < env.length then some (env.set i d) else none
def tgs : List TgT → List D → Env → Option Env
  | [], [], env => some env
  | t :: ts, d :: ds, env => (t d env).bind (tgs ts ds)
  | _, _, _ => none
def tgU (ts : List TgT) : TgT := fun d env => match d with
  | .tup xs => tgs ts xs env
  | _ => none

/-! ### comprehensions -/
def compL (tg : TgT) (c e : EE) (env : Env) : List D → Option (List D)
  | [] => some []
  | x :: xs => (tg x env).bind fun env' => match c env' with
    | some (.bl true) => (e env').bind fun d => (compL tg c e env xs).map fun r => d :: r
    | some (.bl false) => compL tg c e env xs
    | _ => none
def eComp (it : It) (tg : TgT) (c e : EE) : EE := fun env => (it env).bind fun xs => if xs.length < line then (compL tg c e env xs).map (.lst true) else none

/-! ### statements -/
def sNil : SS := fun env => some (.nx env)
def sSeq (a b : SS) : SS := fun env => match a env with
  | some (.nx env') => b env'
  | r => r
def sPass : SS := fun env => some (.nx env)
def sBrk : SS := fun env => some (.bk env)
def sCnt : SS := fun env => some (.ct env)
def sRet (e : EE) : SS := fun env => (e env).map fun d => .rt d env
def sRetN : SS := fun env => some (.rt .non env)
def sDrop (e : EE) : SS := fun env => (e env).map fun _ => .nx env
def sAsg (e : EE) (t : TgT) : SS := fun env => (e env).bind fun d => (t d env).map .nx
def sIf (c : EE) (a b : SS) : SS := fun env => match c env with
  | some (.bl true) => a env
  | some (.bl false) => b env
  | _ => none
def sNever : SS := fun _ => none
def sFor (tg : TgT) (body : SS) : List D → Env → Option Fl
  | [], env => some (.nx env)
  | x :: xs, env => (tg x env).bind fun env1 => match body env1 with
    | some (.nx env') => sFor tg body xs env'
    | some (.ct env') => sFor tg body xs env'
    | some (.bk env') => some (.nx env')
    | some (.rt d env') => some (.rt d env')
    | none => none
def sForI (it : It) (tg : TgT) (body : SS) : SS := fun env => (it env).bind fun xs => sFor tg body xs env
def sWhile (c : EE) (body : SS) : Nat → Env → Option Fl
  | 0, _ => none
  | n + 1, env => match c env with
    | some (.bl false) => some (.nx env)
    | some (.bl true) => match body env with
      | some (.nx env') => sWhile c body n env'
      | some (.ct env') => sWhile c body n env'
      | some (.bk env') => some (.nx env')
      | some (.rt d env') => some (.rt d env')
      | none => none
    | _ => none
def fuel : Nat := 1099511627776
def sWh (c : EE) (body : SS) : SS := sWhile c body fuel

/-! ### paths -/
/-- a step of a path: an item, a field -/
inductive Stp where
  | ix (a : EE)
  | fd (c : Nat) (f : Str)
mutual
def D.keq : D → D → Bool
  | .int i, .int j => i == j
  | .str x, .str y => x == y
  | .tup xs, .tup ys => D.keqs xs ys
  | .non, .non => true
  | _, _ => false
def D.keqs : List D → List D → Bool
  | [], [] => true
  | x :: xs, y :: ys => D.keq x y && D.keqs xs ys
  | _, _ => false
end
def lookD (y : D) : List (D × D) → Option D
  | [] => none
  | (k, d) :: r => if D.keq k y then some d else lookD y r
/-- the first of the key gets another value -/
def setK (y n : D) : List (D × D) → List (D × D)
  | [] => []
  | (k, d) :: r => if D.keq k y then (k, n) :: r else (k, d) :: setK y n r
inductive St1 where
  | ix (d : D)
  | fd (c : Nat) (f : Str)
  /-- a dict's key -/
  | ky (d : D)
def lookF (f : Str) : List (Str × D) → Option D
  | [] => none
  | (g, d) :: r => if f = g then some d else lookF f r
def putFD (f : Str) (d : D) : List (Str × D) → List (Str × D)
  | [] => [(f, d)]
  | (g, e) :: r => if g = f then (f, d) :: r else (g, e) :: putFD f d r
def getS : St1 → D → Option D
  | .ix (.int i), .lst _ xs => atD xs i
  | .ix (.int i), .tup xs => atD xs i
  | .fd c f, .obj _ c' fs => if c = c' then lookF f fs else none
  | .ky y, .dic _ n ds => if n = 1 then none else lookD y ds
  | _, _ => none
def getP : List St1 → D → Option D
  | [], d => some d
  | s :: r, d => (getS s d).bind (getP r)
/-- .. changed there -/
def setS : St1 → D → D → D
  | .ix (.int i), n, .lst o xs => match ixD xs.length i with
    | some j => .lst o (xs.set j n)
    | none => .lst o xs
  | .ix (.int i), n, .tup xs => match ixD xs.length i with
    | some j => .tup (xs.set j n)
    | none => .tup xs
  | .fd c f, n, .obj o c' fs => if c = c' then .obj o c' (putFD f n fs) else .obj o c' fs
  | .ky y, n, .dic o k ds => .dic o k (setK y n ds)
  | _, _, d => d
def setP : List St1 → D → D → D
  | [], n, _ => n
  | s :: r, n, d => match getS s d with
    | some e => setS s (setP r n e) d
    | none => d
abbrev EP1 := Env → Option (List St1)
def qNil : EP1 := fun _ => some []
def qIx (p : EP1) (a : EE) : EP1 := fun env => (p env).bind fun l => (a env).bind fun d => some (l ++ [.ix d])
def qKy (p : EP1) (a : EE) : EP1 := fun env => (p env).bind fun l => (a env).bind fun d => some (l ++ [.ky d])
def qFd (p : EP1) (c : Nat) (f : Str) : EP1 := fun env => (p env).bind fun l => some (l ++ [.fd c f])
/-- a field looked at -/
def eFd (a : EE) (c : Nat) (f : Str) : EE := fun env => (a env).bind fun d => getS (.fd c f) d
/-- what is at a path of a slot; a path of a slot changed -/
def getAt (i : Nat) (l : List St1) (env : Env) : Option D := match env[i]? with
  | some .hole => none
  | some d => getP l d
  | none => none
def setAt (i : Nat) (l : List St1) (n : D) (env : Env) : Env := match env[i]? with
  | some d => env.set i (setP l n d)
  | none => env
/-- path.append(e) -/
def sApp (i : Nat) (p : EP1) (e : EE) : SS := fun env => (p env).bind fun l => match getAt i l env with
  | some (.lst true xs) => (e env).bind fun y => if xs.length < line then some (.nx (setAt i l (.lst true (xs ++ [y])) env)) else none
  | _ => none
/-- path[k] = e -/
def sPut (i : Nat) (p : EP1) (k e : EE) : SS := fun env => (e env).bind fun y => (p env).bind fun l => match getAt i l env with
  | some (.lst true xs) => (k env).bind fun d => match d with
    | .int z => match ixD xs.length z with
      | some j => some (.nx (setAt i l (.lst true (xs.set j y)) env))
      | none => none
    | _ => none
  | _ => none
/-- name = path.pop() -/
def sPop (i : Nat) (p : EP1) (t : TgT) : SS := fun env => (p env).bind fun l => match getAt i l env with
  | some (.lst true xs) => match xs.getLast? with
    | some y => (t y (setAt i l (.lst true xs.dropLast) env)).map .nx
    | none => none
  | _ => none
end Tg

namespace Tg
open PySem PySem.Spec L2
/-! ### dicts whose keys are nested tuples -/
/-- where the classes stand; the program and the world (their hashes) -/
structure Cl where
  f : Nat → Addr
  P : Program
  w : World
  /-- code objects' tables, and the name of what stands in them -/
  tabs : List (Addr × Str) := []
instance : CoeFun Cl fun _ => Nat → Addr := ⟨Cl.f⟩
/-- just this object -/
def ObjE (a : Addr) (o : Obj) : HO := .ext fun h => h.get? a = some o
mutual
def nkD : NestedKey → D
  | .none => .non
  | .num i => .int i
  | .text x => .str x.cps.toList
  | .tup ks => .tup (nkDs ks)
def nkDs : List NestedKey → List D
  | [] => []
  | k :: ks => nkD k :: nkDs ks
end
/-- the object holds these keys (each its own tuple) and values -/
def DnOk (P : Program) (w : World) (a : Addr) (o : Obj) (kvs : List (NestedKey × Addr × V)) : Prop :=
  kvs.length ≤ sizeLine ∧ (a == sysModules) = false ∧ (∀ p ∈ kvs, p.1.depth ≤ 8) ∧ o.ExactDict ∧ ∃ es ep, ∃ xs : List (NestedKey × Addr × Value), o.data = .dict es ep ∧ Paired (fun (p : NestedKey × Addr × V) (q : NestedKey × Addr × Value) => p.1 = q.1 ∧ p.2.1 = q.2.1 ∧ RelV p.2.2 q.2.2) kvs xs ∧
    es.toList = xs.map (entryOfKey (nestedKind P w)) ∧ (xs.map (·.1)).Nodup
mutual
theorem nkD_nf : ∀ k : NestedKey, (nkD k).nf = true
  | .none => rfl
  | .num _ => rfl
  | .text _ => rfl
  | .tup ks => nkDs_nf ks
theorem nkDs_nf : ∀ ks : List NestedKey, D.nfs (nkDs ks) = true
  | [] => rfl
  | k :: ks => by show ((nkD k).nf && D.nfs (nkDs ks)) = true; rw [nkD_nf k, nkDs_nf ks]; rfl
end
mutual
theorem nkD_sh : ∀ k : NestedKey, (nkD k).sh = true
  | .none => rfl
  | .num _ => rfl
  | .text _ => rfl
  | .tup ks => nkDs_sh ks
theorem nkDs_sh : ∀ ks : List NestedKey, D.shs (nkDs ks) = true
  | [] => rfl
  | k :: ks => by show ((nkD k).sh && D.shs (nkDs ks)) = true; rw [nkD_sh k, nkDs_sh ks]; rfl
end
theorem nkDs_map (ks : List NestedKey) : nkDs ks = ks.map nkD := by
  induction ks with
  | nil => rfl
  | cons k ks ih => show nkD k :: nkDs ks = _; rw [ih]; rfl
theorem nkDl_nfs : ∀ l : List NestedKey, D.nfs (l.map nkD) = true := fun l => by rw [← nkDs_map]; exact nkDs_nf l
theorem nkDp_nfs {α : Type} (l : List (NestedKey × α)) : D.nfs (l.map fun p => nkD p.1) = true := by
  have := nkDl_nfs (l.map (·.1))
  rwa [List.map_map] at this
theorem nkDl_shs : ∀ l : List NestedKey, D.shs (l.map nkD) = true := fun l => by rw [← nkDs_map]; exact nkDs_sh l
end Tg

namespace Tg
open PySem PySem.Spec L2
/-! ### the heap grows; code objects' tables grow, all else stays -/
/-- no table -/
class NT (o : HO) : Prop where
  nt : ∀ ps, o ≠ .tbl ps
instance {xs : List V} : NT (.lst xs) := ⟨fun _ h => nomatch h⟩
instance {xs : List V} : NT (.tup xs) := ⟨fun _ h => nomatch h⟩
instance {xs : List (Key × V)} : NT (.dK xs) := ⟨fun _ h => nomatch h⟩
instance {xs : List (List Key × V)} : NT (.dT xs) := ⟨fun _ h => nomatch h⟩
instance {S : Int → Bool} {n : Nat} : NT (.set S n) := ⟨fun _ h => nomatch h⟩
instance {C dx : Addr} {fs : List (Str × V)} : NT (.ins C dx fs) := ⟨fun _ h => nomatch h⟩
instance {x : Addr} : NT (.own x) := ⟨fun _ h => nomatch h⟩
instance {fs : List (Str × V)} : NT (.xd fs) := ⟨fun _ h => nomatch h⟩
instance {f x : Addr} : NT (.met f x) := ⟨fun _ h => nomatch h⟩
instance {lo hi : Int} : NT (.rng lo hi) := ⟨fun _ h => nomatch h⟩
instance {o : Obj} {u : HO} : NT (.frz o u) := ⟨fun _ h => nomatch h⟩
instance {p : Heap → Prop} : NT (.ext p) := ⟨fun _ h => nomatch h⟩
instance {a : Addr} {o : Obj} : NT (ObjE a o) := ⟨fun _ h => nomatch h⟩
instance {c : Addr} {q : Str} : NT (LamX.CodeO c q) := ⟨fun _ h => nomatch h⟩
/-- the names of what the tables tell, by place (the lambdas of this law's text) -/
def NM : Nat → Nat → Str := fun _ _ => ""
abbrev TabS (H : Hp) (P : Addr) (_ : Str) : Prop := NdefX.TabN H P NM
structure Same (H H' : Hp) : Prop where
  at_ : ∀ a o, H a = some o → ∀ [NT o], H' a = some o
  back : ∀ {a}, H' a = none → H a = none
  tabs : ∀ P q, TabS H P q → TabS H' P q
instance {H H' : Hp} : CoeFun (Same H H') (fun _ => ∀ a o, H a = some o → ∀ [NT o], H' a = some o) := ⟨Same.at_⟩
theorem tabS_keep {H H' : Hp} {P : Addr} {q : Str} (t : TabS H P q) (h1 : ∀ ps, H P = some (.tbl ps) → H' P = some (.tbl ps)) (h2 : ∀ c n, H c = some (LamX.CodeO c n) → H' c = some (LamX.CodeO c n)) : TabS H' P q := by
  obtain ⟨ps, e1, e2, e3⟩ := t
  refine ⟨ps, h1 ps e1, e2, fun pos cv h => ?_⟩
  obtain ⟨c, q1, q2⟩ := e3 pos cv h
  exact ⟨c, q1, h2 c _ q2⟩
/-- a node that is no table and no code object changes -/
theorem tabs_upd {H : Hp} {a : Addr} {ho o' : HO} (e : H a = some ho) [n1 : NT ho] (n2 : ∀ n, ho ≠ LamX.CodeO a n) (P : Addr) (q : Str) (t : TabS H P q) : TabS (upd H a o') P q :=
  tabS_keep t (fun ps h => by
    rw [upd_ne (fun z => n1.nt ps (by rw [z, e] at h; exact Option.some.inj h))]; exact h) fun c n h => by
    rw [upd_ne (fun z => n2 n (by rw [z, e] at h; rw [← z]; rw [z]; exact Option.some.inj h))]; exact h
theorem lst_code {xs : List V} {a : Addr} (n : Str) : HO.lst xs ≠ LamX.CodeO a n := fun h => by unfold LamX.CodeO at h; cases h
theorem dK_code {xs : List (Key × V)} {a : Addr} (n : Str) : HO.dK xs ≠ LamX.CodeO a n := fun h => by unfold LamX.CodeO at h; cases h
theorem dT_code {xs : List (List Key × V)} {a : Addr} (n : Str) : HO.dT xs ≠ LamX.CodeO a n := fun h => by unfold LamX.CodeO at h; cases h
theorem ins_code {C dx : Addr} {fs : List (Str × V)} {a : Addr} (n : Str) : HO.ins C dx fs ≠ LamX.CodeO a n := fun h => by unfold LamX.CodeO at h; cases h
/-- a dict's object is no code object -/
theorem objE_code {P : Program} {w : World} {a : Addr} {o : Obj} {kvs : List (NestedKey × Addr × V)} (d : DnOk P w a o kvs) (n : Str) : ObjE a o ≠ LamX.CodeO a n := fun h => by
  obtain ⟨_, _, _, _, es, ep, _, hd, _⟩ := d
  unfold ObjE LamX.CodeO at h
  injection h with h
  have hf : o.isFreed = false := by
    obtain ⟨c1, c2, c3, c4⟩ := o
    have hd : c3 = .dict es ep := hd
    subst hd
    rfl
  have hg : (⟨Array.replicate (a + 1) o, {}⟩ : Heap).get? a = some o := Heap.get?_some_iff.mpr ⟨by simp, hf⟩
  have := congrFun h (⟨Array.replicate (a + 1) o, {}⟩ : Heap)
  rw [this] at hg
  obtain ⟨oc, vs, t, e1, e2, _⟩ := hg
  have hg : (⟨Array.replicate (a + 1) o, {}⟩ : Heap).get? a = some o := Heap.get?_some_iff.mpr ⟨by simp, hf⟩
  rw [hg] at e1
  cases e1
  rw [hd] at e2
  cases e2
theorem Same.of {H H' : Hp} (h : ∀ a o, H a = some o → H' a = some o) : Same H H' := ⟨fun a o e => h a o e, fun {a} e => (by
  cases h1 : H a with
  | none => rfl
  | some o => rw [h a o h1] at e; cases e), fun P q t => tabS_keep (q := q) t (fun ps e => h _ _ e) fun c n e => h _ _ e⟩
theorem Same.refl (H : Hp) : Same H H := ⟨fun _ _ h => h, fun h => h, fun _ _ h => h⟩
theorem Same.trans {H H1 H2 : Hp} (a : Same H H1) (b : Same H1 H2) : Same H H2 := ⟨fun x o h => b x o (a x o h), fun h => a.back (b.back h), fun P q h => b.tabs P q (a.tabs P q h)⟩
/-- what was made since changes -/
theorem Same.put {H H1 : Hp} (s : Same H H1) {a : Addr} {ho o' : HO} (n : H a = none) (e : H1 a = some ho) [n1 : NT ho] (n2 : ∀ q, ho ≠ LamX.CodeO a q) : Same H (upd H1 a o') := ⟨fun b o h => by
  rw [upd_ne (ne_of_none h n)]; exact s b o h, fun {b} h => by
  by_cases z : b = a
  · rw [z, upd_same] at h; cases h
  · rw [upd_ne z] at h; exact s.back h, fun P q t => tabs_upd e n2 P q (s.tabs P q t)⟩
theorem Same.free {H H' : Hp} (e : Same H H') {l : Addr} (h : H' l = Option.none) : H l = Option.none := e.back h
theorem Same.seq {K : PySem.W.Frag} {H H' : Hp} {a : Addr} {xs : List V} (e : Same H H') (h : SqL K H a xs) : SqL K H' a xs := by
  rcases h with h | h
  · rcases h with h | ⟨o, h⟩
    · exact .inl (.inl (e _ _ h))
    · exact .inl (.inr ⟨o, e _ _ h⟩)
  · exact .inr h
end Tg

namespace Tg
open PySem PySem.Spec L2

theorem atD_eq {α : Type} (xs : List α) (i : Int) : atD xs i = atI xs i := rfl
theorem line_eq : line = sizeLine := by rw [sizeLine_eq]; rfl

/-! ### what stands for what -/
def kD : Key → D
  | .inl i => .int i
  | .inr x => .str x.cps.toList
mutual
/-- v is d, its own parts at F; the frozen ones are none of W -/
inductive Own (K : PySem.W.Frag) (cl : Cl) (W : List Addr) (H : Hp) : V → D → List Addr → Prop
  | non : Own K cl W H .non .non []
  | bl (b : Bool) : Own K cl W H (.bl b) (.bl b) []
  | int (i : Int) : Own K cl W H (.int i) (.int i) []
  | str (x : List Nat) : Own K cl W H (.str ⟨x.toArray⟩) (.str x) []
  | tup {a : Addr} {vs : List V} {ds : List D} {F : List Addr} : H a = some (.tup vs) → Owns K cl W H vs ds F → Own K cl W H (.ref a) (.tup ds) F
  | lstO {a : Addr} {vs : List V} {ds : List D} {F : List Addr} : H a = some (.lst vs) → Owns K cl W H vs ds F → Own K cl W H (.ref a) (.lst true ds) (a :: F)
  | scr {a : Addr} {ns : List Int} : Rd H a (.lst (ns.map V.int)) → a ∉ W → Own K cl W H (.ref a) (.scr ns) []
  | scrK {a : Addr} {ns : List Int} : (∃ (o : Obj) (its : Array Value) (n : Nat), K.lookup a = some o ∧ o.cls = .type "list" ∧ o.dict = none ∧ o.data = .seq its n ∧ its.size ≤ sizeLine ∧ Vals (ns.map V.int) its.toList) → Own K cl W H (.ref a) (.scr ns) []
  | lstF {a : Addr} {vs : List V} {ds : List D} : H a = some (.lst vs) → a ∉ W → Owns K cl W H vs ds [] → Own K cl W H (.ref a) (.lst false ds) []
  | dicO {a : Addr} {kvs : List (Key × V)} {ds : List (D × D)} {F : List Addr} : H a = some (.dK kvs) → kvs.map (fun p => kD p.1) = ds.map (·.1) → Owns K cl W H (kvs.map (·.2)) (ds.map (·.2)) F → Own K cl W H (.ref a) (.dic true 0 ds) (a :: F)
  | dicF {a : Addr} {kvs : List (Key × V)} {ds : List (D × D)} : H a = some (.dK kvs) → a ∉ W → kvs.map (fun p => kD p.1) = ds.map (·.1) → Owns K cl W H (kvs.map (·.2)) (ds.map (·.2)) [] → Own K cl W H (.ref a) (.dic false 0 ds) []
  | dtO {a : Addr} {kvs : List (List Key × V)} {ds : List (D × D)} {F : List Addr} : H a = some (.dT kvs) → kvs.map (fun p => D.tup (p.1.map kD)) = ds.map (·.1) → Owns K cl W H (kvs.map (·.2)) (ds.map (·.2)) F → Own K cl W H (.ref a) (.dic true 1 ds) (a :: F)
  | dtF {a : Addr} {kvs : List (List Key × V)} {ds : List (D × D)} : H a = some (.dT kvs) → a ∉ W → kvs.map (fun p => D.tup (p.1.map kD)) = ds.map (·.1) → Owns K cl W H (kvs.map (·.2)) (ds.map (·.2)) [] → Own K cl W H (.ref a) (.dic false 1 ds) []
  | dnO {a : Addr} {o : Obj} {kvs : List (NestedKey × Addr × V)} {ds : List (D × D)} {F : List Addr} : H a = some (ObjE a o) → DnOk cl.P cl.w a o kvs → Owns K cl W H (kvs.map fun p => V.ref p.2.1) (ds.map (·.1)) [] → kvs.map (fun p => nkD p.1) = ds.map (·.1) → Owns K cl W H (kvs.map (·.2.2)) (ds.map (·.2)) F → Own K cl W H (.ref a) (.dic true 2 ds) (a :: F)
  | dnF {a : Addr} {o : Obj} {kvs : List (NestedKey × Addr × V)} {ds : List (D × D)} : H a = some (ObjE a o) → a ∉ W → DnOk cl.P cl.w a o kvs → Owns K cl W H (kvs.map fun p => V.ref p.2.1) (ds.map (·.1)) [] → kvs.map (fun p => nkD p.1) = ds.map (·.1) → Owns K cl W H (kvs.map (·.2.2)) (ds.map (·.2)) [] → Own K cl W H (.ref a) (.dic false 2 ds) []
  | objO {a dx : Addr} {c : Nat} {fs : List (Str × V)} {ds : List (Str × D)} {F : List Addr} : H a = some (.ins (cl c) dx fs) → fs.map (·.1) = ds.map (·.1) → Owns K cl W H (fs.map (·.2)) (ds.map (·.2)) F → Own K cl W H (.ref a) (.obj true c ds) (a :: F)
  | objF {a dx : Addr} {c : Nat} {fs : List (Str × V)} {ds : List (Str × D)} : H a = some (.ins (cl c) dx fs) → a ∉ W → fs.map (·.1) = ds.map (·.1) → Owns K cl W H (fs.map (·.2)) (ds.map (·.2)) [] → Own K cl W H (.ref a) (.obj false c ds) []
  | hole (v : V) : Own K cl W H v .hole []
inductive Owns (K : PySem.W.Frag) (cl : Cl) (W : List Addr) (H : Hp) : List V → List D → List Addr → Prop
  | nil : Owns K cl W H [] [] []
  | cons {v : V} {vs : List V} {d : D} {ds : List D} {F G : List Addr} : Own K cl W H v d F → Owns K cl W H vs ds G → Owns K cl W H (v :: vs) (d :: ds) (F ++ G)
end

section
variable {K : PySem.W.Frag} {cl : Cl} {W W' : List Addr} {H H' : Hp}
theorem rdSame (e : Same H H') {a : Addr} {u : HO} [NT u] (h : Rd H a u) : Rd H' a u := by
  rcases h with h | ⟨o, h⟩
  · exact .inl (e _ _ h)
  · exact .inr ⟨o, e _ _ h⟩
theorem sqtSame (e : Same H H') {a : Addr} {vs : List V} (h : SqT K H a vs) : SqT K H' a vs := by
  rcases h with h | h
  · exact .inl (rdSame e h)
  · exact .inr h
/-- the heap may change at what is neither in the value's own parts nor frozen -/
structure Keep (W W' : List Addr) (F : List Addr) (H H' : Hp) : Prop where
  own : ∀ a ∈ F, ∀ o, H a = some o → ∀ [NT o], H' a = some o
  out : ∀ a o, a ∉ W → H a = some o → ∀ [NT o], H' a = some o
  tup : ∀ a vs, H a = some (.tup vs) → H' a = some (.tup vs)
  frz : ∀ a o u, H a = some (.frz o u) → H' a = some (.frz o u)
  fr : ∀ a, a ∉ W → H a ≠ none → a ∉ W'
theorem Keep.app1 {F G : List Addr} (k : Keep W W' (F ++ G) H H') : Keep W W' F H H' := ⟨fun a ha => k.own a (List.mem_append_left _ ha), k.out, k.tup, k.frz, k.fr⟩
theorem Keep.app2 {F G : List Addr} (k : Keep W W' (F ++ G) H H') : Keep W W' G H H' := ⟨fun a ha => k.own a (List.mem_append_right _ ha), k.out, k.tup, k.frz, k.fr⟩
theorem Keep.tl {b : Addr} {F : List Addr} (k : Keep W W' (b :: F) H H') : Keep W W' F H H' := ⟨fun a ha => k.own a (List.mem_cons_of_mem _ ha), k.out, k.tup, k.frz, k.fr⟩
theorem rd_some {a : Addr} {u : HO} (h : Rd H a u) : H a ≠ none := by
  rcases h with h | ⟨o, h⟩ <;> rw [h] <;> simp
mutual
theorem Own.keep : ∀ {v : V} {d : D} {F : List Addr}, Own K cl W H v d F → Keep W W' F H H' → Own K cl W' H' v d F
  | _, _, _, .non, _ => .non
  | _, _, _, .bl b, _ => .bl b
  | _, _, _, .int i, _ => .int i
  | _, _, _, .str x, _ => .str x
  | _, _, _, .tup h hs, k => by
    exact .tup (k.tup _ _ h) (Owns.keep hs k)
  | _, _, _, .lstO h hs, k => .lstO (k.own _ List.mem_cons_self _ h) (Owns.keep hs k.tl)
  | _, _, _, .lstF h hn hs, k => .lstF (k.out _ _ hn h) (k.fr _ hn (by rw [h]; simp)) (Owns.keep hs ⟨(fun _ ha => nomatch ha), k.out, k.tup, k.frz, k.fr⟩)
  | _, _, _, .scr h hn, k => .scr (by
    rcases h with h | ⟨o, h⟩
    · exact .inl (k.out _ _ hn h)
    · exact .inr ⟨o, k.out _ _ hn h⟩) (k.fr _ hn (rd_some h))
  | _, _, _, .scrK h, k => .scrK h
  | _, _, _, .dicO h e hs, k => .dicO (k.own _ List.mem_cons_self _ h) e (Owns.keep hs k.tl)
  | _, _, _, .dicF h hn e hs, k => .dicF (k.out _ _ hn h) (k.fr _ hn (by rw [h]; simp)) e (Owns.keep hs ⟨(fun _ ha => nomatch ha), k.out, k.tup, k.frz, k.fr⟩)
  | _, _, _, .dtO h e hs, k => .dtO (k.own _ List.mem_cons_self _ h) e (Owns.keep hs k.tl)
  | _, _, _, .dtF h hn e hs, k => .dtF (k.out _ _ hn h) (k.fr _ hn (by rw [h]; simp)) e (Owns.keep hs ⟨(fun _ ha => nomatch ha), k.out, k.tup, k.frz, k.fr⟩)
  | _, _, _, .dnO h ok ks e hs, k => .dnO (k.own _ List.mem_cons_self _ h) ok (Owns.keep ks ⟨(fun _ ha => nomatch ha), k.out, k.tup, k.frz, k.fr⟩) e (Owns.keep hs k.tl)
  | _, _, _, .dnF h hn ok ks e hs, k => .dnF (k.out _ _ hn h) (k.fr _ hn (by rw [h]; simp)) ok (Owns.keep ks ⟨(fun _ ha => nomatch ha), k.out, k.tup, k.frz, k.fr⟩) e (Owns.keep hs ⟨(fun _ ha => nomatch ha), k.out, k.tup, k.frz, k.fr⟩)
  | _, _, _, .objO h e hs, k => .objO (k.own _ List.mem_cons_self _ h) e (Owns.keep hs k.tl)
  | _, _, _, .objF h hn e hs, k => .objF (k.out _ _ hn h) (k.fr _ hn (by rw [h]; simp)) e (Owns.keep hs ⟨(fun _ ha => nomatch ha), k.out, k.tup, k.frz, k.fr⟩)
  | _, _, _, .hole v, _ => .hole v
theorem Owns.keep : ∀ {vs : List V} {ds : List D} {F : List Addr}, Owns K cl W H vs ds F → Keep W W' F H H' → Owns K cl W' H' vs ds F
  | _, _, _, .nil, _ => .nil
  | _, _, _, .cons h hs, k => .cons (Own.keep h k.app1) (Owns.keep hs k.app2)
end
theorem Keep.same (e : Same H H') {F : List Addr} : Keep W W F H H' := ⟨fun a _ o h => e _ _ h, fun a o _ h => e _ _ h, fun a vs h => e _ _ h, fun a o u h => e _ _ h, fun a h _ => h⟩
theorem Own.mono {v : V} {d : D} {F : List Addr} (e : Same H H') (h : Own K cl W H v d F) : Own K cl W H' v d F := h.keep (Keep.same e)
theorem Owns.mono {vs : List V} {ds : List D} {F : List Addr} (e : Same H H') (h : Owns K cl W H vs ds F) : Owns K cl W H' vs ds F := h.keep (Keep.same e)
mutual
/-- what may be handed on has no own part -/
theorem Own.sh : ∀ {v : V} {d : D} {F : List Addr}, Own K cl W H v d F → d.sh = true → F = []
  | _, _, _, .non, _ => rfl
  | _, _, _, .bl b, _ => rfl
  | _, _, _, .int i, _ => rfl
  | _, _, _, .str x, _ => rfl
  | _, _, _, .tup h hs, e => Owns.sh hs e
  | _, _, _, .lstO h hs, e => nomatch e
  | _, _, _, .lstF h hn hs, _ => rfl
  | _, _, _, .scr _ _, _ => rfl
  | _, _, _, .scrK _, _ => rfl
  | _, _, _, .dicO h _ hs, e => nomatch e
  | _, _, _, .dicF h hn _ hs, _ => rfl
  | _, _, _, .dtO h _ hs, e => nomatch e
  | _, _, _, .dtF h hn _ hs, _ => rfl
  | _, _, _, .dnO h _ _ _ hs, e => nomatch e
  | _, _, _, .dnF h hn _ _ _ hs, _ => rfl
  | _, _, _, .objO h _ hs, e => nomatch e
  | _, _, _, .objF h hn _ hs, _ => rfl
  | _, _, _, .hole v, _ => rfl
theorem Owns.sh : ∀ {vs : List V} {ds : List D} {F : List Addr}, Owns K cl W H vs ds F → D.shs ds = true → F = []
  | _, _, _, .nil, _ => rfl
  | _, _, _, .cons h hs, e => by
    have e' : (_ && _) = true := e
    rw [Bool.and_eq_true] at e'
    rw [Own.sh h e'.1, Owns.sh hs e'.2]
    rfl
end
theorem Owns.length : ∀ {vs : List V} {ds : List D} {F : List Addr}, Owns K cl W H vs ds F → vs.length = ds.length
  | _, _, _, .nil => rfl
  | _, _, _, .cons _ hs => by rw [List.length_cons, List.length_cons, Owns.length hs]
theorem Owns.get : ∀ {vs : List V} {ds : List D} {F : List Addr} {i : Nat} {d : D}, Owns K cl W H vs ds F → ds[i]? = some d → ∃ v G, vs[i]? = some v ∧ Own K cl W H v d G ∧ ∀ a ∈ G, a ∈ F
  | _, _, _, _, _, .nil, e => by simp at e
  | _, _, _, 0, _, .cons h hs, e => by
    simp at e
    subst e
    exact ⟨_, _, rfl, h, fun a ha => List.mem_append_left _ ha⟩
  | _, _, _, i + 1, d, .cons h hs, e => by
    obtain ⟨v, G, e1, h1, h2⟩ := Owns.get (i := i) (d := d) hs (by simpa using e)
    exact ⟨v, G, by simpa using e1, h1, fun a ha => List.mem_append_right _ (h2 a ha)⟩
theorem Owns.append : ∀ {vs ws : List V} {ds es : List D} {F G : List Addr}, Owns K cl W H vs ds F → Owns K cl W H ws es G → Owns K cl W H (vs ++ ws) (ds ++ es) (F ++ G)
  | _, _, _, _, _, _, .nil, h2 => h2
  | _, _, _, _, _, _, .cons h hs, h2 => by
    have := Owns.append hs h2
    rw [List.append_assoc]
    exact .cons h this
theorem Owns.dropN : ∀ {vs : List V} {ds : List D} {F : List Addr} (n : Nat), Owns K cl W H vs ds F → D.shs ds = true → Owns K cl W H (vs.drop n) (ds.drop n) []
  | _, _, F, 0, h, e => by
    have := h.sh e
    subst this
    exact h
  | _, _, _, n + 1, .nil, _ => .nil
  | _, _, _, n + 1, .cons h hs, e => by
    have e' : (_ && _) = true := e
    rw [Bool.and_eq_true] at e'
    exact Owns.dropN n hs e'.2
theorem shs_drop : ∀ (n : Nat) (ds : List D), D.shs ds = true → D.shs (ds.drop n) = true
  | 0, _, h => h
  | _ + 1, [], h => h
  | n + 1, d :: ds, h => by
    have e' : (_ && _) = true := h
    rw [Bool.and_eq_true] at e'
    exact shs_drop n ds e'.2
theorem shs_take : ∀ (n : Nat) (ds : List D), D.shs ds = true → D.shs (ds.take n) = true
  | 0, _, h => rfl
  | _ + 1, [], h => h
  | n + 1, d :: ds, h => by
    have e' : (_ && _) = true := h
    rw [Bool.and_eq_true] at e'
    show (d.sh && D.shs (ds.take n)) = true
    rw [e'.1, shs_take n ds e'.2]
    rfl
theorem Owns.takeN : ∀ {vs : List V} {ds : List D} {F : List Addr} (n : Nat), Owns K cl W H vs ds F → D.shs ds = true → Owns K cl W H (vs.take n) (ds.take n) []
  | _, _, _, 0, h, e => .nil
  | _, _, _, n + 1, .nil, _ => .nil
  | _, _, _, n + 1, .cons h hs, e => by
    have e' : (_ && _) = true := e
    rw [Bool.and_eq_true] at e'
    have h1 := h.sh e'.1
    subst h1
    exact Owns.cons (F := []) (G := []) h (Owns.takeN n hs e'.2)
theorem Owns.shs {vs : List V} {ds : List D} {F : List Addr} (h : Owns K cl W H vs ds F) (e : D.shs ds = true) : Owns K cl W H vs ds [] := by
  have := h.sh e
  subst this
  exact h
theorem Owns.rep {vs : List V} {ds : List D} (h : Owns K cl W H vs ds []) : ∀ k : Nat, Owns K cl W H (List.replicate k vs).flatten (List.replicate k ds).flatten []
  | 0 => .nil
  | k + 1 => by
    rw [List.replicate_succ, List.replicate_succ, List.flatten_cons, List.flatten_cons]
    exact Owns.append (F := []) (G := []) h (Owns.rep h k)
mutual
/-- lent: frozen for as long -/
theorem Own.fz : ∀ {v : V} {d : D} {F : List Addr} (W' : List Addr), Own K cl W H v d F → (∀ a, H a ≠ none → a ∉ W → a ∉ W') → (∀ a ∈ F, a ∉ W') → Own K cl W' H v d.fz []
  | _, _, _, W', .non, _, _ => .non
  | _, _, _, W', .bl b, _, _ => .bl b
  | _, _, _, W', .int i, _, _ => .int i
  | _, _, _, W', .str x, _, _ => .str x
  | _, _, _, W', .tup h hs, k, f => .tup h (Owns.fz W' hs k f)
  | _, _, _, W', .lstO h hs, k, f => .lstF h (f _ List.mem_cons_self) (Owns.fz W' hs k fun a ha => f a (List.mem_cons_of_mem _ ha))
  | _, _, _, W', .scr h hn, k, f => .scr h (k _ (rd_some h) hn)
  | _, _, _, W', .scrK h, _, _ => .scrK h
  | _, _, _, W', .lstF h hn hs, k, f => .lstF h (k _ (by rw [h]; simp) hn) (hs.keep ⟨(fun _ ha => nomatch ha), fun a o _ q => q, fun a o q => q, fun a o u q => q, fun a h1 h2 => k a h2 h1⟩)
  | _, _, _, W', .dicO (ds := ds) h e hs, k, f => by
    refine .dicF h (f _ List.mem_cons_self) (ds := D.fzk ds) ?_ ?_
    · rw [e, fzk_fst]
    · rw [fzk_snd]
      exact Owns.fz W' hs k fun a ha => f a (List.mem_cons_of_mem _ ha)
  | _, _, _, W', .dicF h hn e hs, k, f => .dicF h (k _ (by rw [h]; simp) hn) e (hs.keep ⟨(fun _ ha => nomatch ha), fun a o _ q => q, fun a o q => q, fun a o u q => q, fun a h1 h2 => k a h2 h1⟩)
  | _, _, _, W', .dtO (ds := ds) h e hs, k, f => by
    refine .dtF h (f _ List.mem_cons_self) (ds := D.fzk ds) ?_ ?_
    · rw [e, fzk_fst]
    · rw [fzk_snd]
      exact Owns.fz W' hs k fun a ha => f a (List.mem_cons_of_mem _ ha)
  | _, _, _, W', .dtF h hn e hs, k, f => .dtF h (k _ (by rw [h]; simp) hn) e (hs.keep ⟨(fun _ ha => nomatch ha), fun a o _ q => q, fun a o q => q, fun a o u q => q, fun a h1 h2 => k a h2 h1⟩)
  | _, _, _, W', .dnO (ds := ds) h ok ks e hs, k, f => by
    refine .dnF h (f _ List.mem_cons_self) ok (ds := D.fzk ds) ?_ ?_ ?_
    · rw [fzk_fst]
      exact ks.keep ⟨(fun _ ha => nomatch ha), fun a o _ q => q, fun a o q => q, fun a o u q => q, fun a h1 h2 => k a h2 h1⟩
    · rw [e, fzk_fst]
    · rw [fzk_snd]
      exact Owns.fz W' hs k fun a ha => f a (List.mem_cons_of_mem _ ha)
  | _, _, _, W', .dnF h hn ok ks e hs, k, f => .dnF h (k _ (by rw [h]; simp) hn) ok (ks.keep ⟨(fun _ ha => nomatch ha), fun a o _ q => q, fun a o q => q, fun a o u q => q, fun a h1 h2 => k a h2 h1⟩) e (hs.keep ⟨(fun _ ha => nomatch ha), fun a o _ q => q, fun a o q => q, fun a o u q => q, fun a h1 h2 => k a h2 h1⟩)
  | _, _, _, W', .objO (ds := ds) h e hs, k, f => by
    refine .objF h (f _ List.mem_cons_self) (ds := D.fzf ds) ?_ ?_
    · rw [e, fzf_fst]
    · rw [fzf_snd]
      exact Owns.fz W' hs k fun a ha => f a (List.mem_cons_of_mem _ ha)
  | _, _, _, W', .objF h hn e hs, k, f => .objF h (k _ (by rw [h]; simp) hn) e (hs.keep ⟨(fun _ ha => nomatch ha), fun a o _ q => q, fun a o q => q, fun a o u q => q, fun a h1 h2 => k a h2 h1⟩)
  | _, _, _, W', .hole v, _, _ => .hole v
theorem Owns.fz : ∀ {vs : List V} {ds : List D} {F : List Addr} (W' : List Addr), Owns K cl W H vs ds F → (∀ a, H a ≠ none → a ∉ W → a ∉ W') → (∀ a ∈ F, a ∉ W') → Owns K cl W' H vs (D.fzs ds) []
  | _, _, _, W', .nil, _, _ => .nil
  | _, _, _, W', .cons h hs, k, f => Owns.cons (F := []) (G := []) (Own.fz W' h k fun a ha => f a (List.mem_append_left _ ha)) (Owns.fz W' hs k fun a ha => f a (List.mem_append_right _ ha))
theorem fzk_fst : ∀ ds : List (D × D), (D.fzk ds).map (·.1) = ds.map (·.1)
  | [] => rfl
  | (k, x) :: r => by show k :: _ = k :: _; rw [fzk_fst r]
theorem fzk_snd : ∀ ds : List (D × D), (D.fzk ds).map (·.2) = D.fzs (ds.map (·.2))
  | [] => rfl
  | (k, x) :: r => by show x.fz :: _ = x.fz :: _; rw [fzk_snd r]
theorem fzf_fst : ∀ ds : List (Str × D), (D.fzf ds).map (·.1) = ds.map (·.1)
  | [] => rfl
  | (k, x) :: r => by show k :: _ = k :: _; rw [fzf_fst r]
theorem fzf_snd : ∀ ds : List (Str × D), (D.fzf ds).map (·.2) = D.fzs (ds.map (·.2))
  | [] => rfl
  | (k, x) :: r => by show x.fz :: _ = x.fz :: _; rw [fzf_snd r]
end
end
end Tg

namespace Tg
open PySem PySem.Spec L2
/-! ### keys -/
theorem keq_kD (a b : Key) : D.keq (kD a) (kD b) = decide (a = b) := by
  cases a with
  | inl i => cases b with
    | inl j => exact (key_ll i j).symm
    | inr y => exact (key_lr i y).symm
  | inr x => cases b with
    | inl j => exact (key_rl x j).symm
    | inr y =>
      rw [key_rr]
      show (x.cps.toList == y.cps.toList) = _
      by_cases h : x = y
      · subst h; simp
      · rw [decide_eq_false h, beq_eq_false_iff_ne]
        intro e
        refine h ?_
        cases x with
        | mk xs => cases y with
          | mk ys =>
            have : xs = ys := by
              have := congrArg List.toArray e
              simpa using this
            rw [this]
mutual
theorem keq_beq : ∀ a b : NestedKey, D.keq (nkD a) (nkD b) = NestedKey.beq a b
  | .none, .none => rfl
  | .none, .num _ => by simp [nkD, D.keq, NestedKey.beq]
  | .none, .text _ => by simp [nkD, D.keq, NestedKey.beq]
  | .none, .tup _ => by simp [nkD, D.keq, NestedKey.beq]
  | .num _, .none => by simp [nkD, D.keq, NestedKey.beq]
  | .num i, .num j => by
    show (i == j) = decide (i = j)
    by_cases h : i = j <;> simp [h]
  | .num _, .text _ => by simp [nkD, D.keq, NestedKey.beq]
  | .num _, .tup _ => by simp [nkD, D.keq, NestedKey.beq]
  | .text _, .none => by simp [nkD, D.keq, NestedKey.beq]
  | .text _, .num _ => by simp [nkD, D.keq, NestedKey.beq]
  | .text x, .text y => by
    have := keq_kD (.inr x) (.inr y)
    show (x.cps.toList == y.cps.toList) = decide (x = y)
    have h : (x.cps.toList == y.cps.toList) = decide ((Sum.inr x : Key) = Sum.inr y) := this
    rw [h]
    by_cases e : x = y <;> simp [e]
  | .text _, .tup _ => by simp [nkD, D.keq, NestedKey.beq]
  | .tup _, .none => by simp [nkD, D.keq, NestedKey.beq]
  | .tup _, .num _ => by simp [nkD, D.keq, NestedKey.beq]
  | .tup _, .text _ => by simp [nkD, D.keq, NestedKey.beq]
  | .tup a, .tup b => by
    show D.keqs (nkDs a) (nkDs b) = NestedKey.beqAll a b
    exact keqs_beq a b
theorem keqs_beq : ∀ a b : List NestedKey, D.keqs (nkDs a) (nkDs b) = NestedKey.beqAll a b
  | [], [] => rfl
  | [], _ :: _ => by simp [nkDs, D.keqs, NestedKey.beqAll]
  | _ :: _, [] => by simp [nkDs, D.keqs, NestedKey.beqAll]
  | x :: a, y :: b => by
    show (D.keq (nkD x) (nkD y) && D.keqs (nkDs a) (nkDs b)) = (NestedKey.beq x y && NestedKey.beqAll a b)
    rw [keq_beq x y, keqs_beq a b]
end
theorem keq_nkD (a b : NestedKey) : D.keq (nkD a) (nkD b) = decide (a = b) := by rw [keq_beq, NestedKey.decide_eq]
/-- the keys and what they hold -/
def nv (kvs : List (NestedKey × Addr × V)) : List (NestedKey × V) := kvs.map fun p => (p.1, p.2.2)
theorem nv_fst (kvs : List (NestedKey × Addr × V)) : (nv kvs).map (fun p => nkD p.1) = kvs.map (fun p => nkD p.1) := by unfold nv; rw [List.map_map]; rfl
theorem nv_snd (kvs : List (NestedKey × Addr × V)) : (nv kvs).map (·.2) = kvs.map (·.2.2) := by unfold nv; rw [List.map_map]; rfl
mutual
theorem keq_eq : ∀ a b : D, D.keq a b = true → a = b
  | .int i, .int j, h => by
    have h' : (i == j) = true := h
    rw [beq_iff_eq] at h'
    rw [h']
  | .str x, .str y, h => by
    have h' : (x == y) = true := h
    rw [beq_iff_eq] at h'
    rw [h']
  | .tup xs, .tup ys, h => by rw [keqs_eq xs ys h]
  | .non, .non, _ => rfl
  | .non, .bl _, h | .non, .int _, h | .non, .str _, h | .non, .tup _, h | .non, .lst _ _, h | .non, .dic _ _ _, h | .non, .obj _ _ _, h | .non, .scr _, h | .non, .hole, h => nomatch h
  | .int _, .non, h | .int _, .bl _, h | .int _, .str _, h | .int _, .tup _, h | .int _, .lst _ _, h | .int _, .dic _ _ _, h | .int _, .obj _ _ _, h | .int _, .scr _, h | .int _, .hole, h => nomatch h
  | .str _, .non, h | .str _, .bl _, h | .str _, .int _, h | .str _, .tup _, h | .str _, .lst _ _, h | .str _, .dic _ _ _, h | .str _, .obj _ _ _, h | .str _, .scr _, h | .str _, .hole, h => nomatch h
  | .tup _, .non, h | .tup _, .bl _, h | .tup _, .int _, h | .tup _, .str _, h | .tup _, .lst _ _, h | .tup _, .dic _ _ _, h | .tup _, .obj _ _ _, h | .tup _, .scr _, h | .tup _, .hole, h => nomatch h
  | .bl _, b, h => by cases b <;> cases h
  | .lst _ _, b, h => by cases b <;> cases h
  | .dic _ _ _, b, h => by cases b <;> cases h
  | .obj _ _ _, b, h => by cases b <;> cases h
  | .scr _, b, h => by cases b <;> cases h
  | .hole, b, h => by cases b <;> cases h
theorem keqs_eq : ∀ a b : List D, D.keqs a b = true → a = b
  | [], [], _ => rfl
  | [], _ :: _, h => nomatch h
  | _ :: _, [], h => nomatch h
  | x :: a, y :: b, h => by
    have h' : (D.keq x y && D.keqs a b) = true := h
    rw [Bool.and_eq_true] at h'
    rw [keq_eq x y h'.1, keqs_eq a b h'.2]
end
/-- the place of a key -/
theorem look_zoom {κ : Type} [DecidableEq κ] {kd : κ → D} (hk : ∀ a b, D.keq (kd a) (kd b) = decide (a = b)) {y : D} : ∀ {kvs : List (κ × V)} {ds : List (D × D)} {d : D}, kvs.map (fun p => kd p.1) = ds.map (·.1) → lookD y ds = some d →
    ∃ (j : Nat) (k : κ), y = kd k ∧ (ds.map (·.2))[j]? = some d ∧ valV kvs k = (kvs.map (·.2))[j]? ∧ ∀ n : D, (setK y n ds).map (·.1) = ds.map (·.1) ∧ (setK y n ds).map (·.2) = (ds.map (·.2)).set j n
  | [], [], _, _, h => nomatch h
  | [], _ :: _, _, e, _ => by simp at e
  | _ :: _, [], _, _, h => nomatch h
  | p :: r, (k', x) :: r', d, e, h => by
    have hh : kd p.1 = k' ∧ r.map (fun p => kd p.1) = r'.map (·.1) := by simpa using e
    obtain ⟨rfl, hr⟩ := hh
    unfold lookD at h
    cases hc : D.keq (kd p.1) y with
    | true =>
      rw [hc, if_pos rfl] at h
      cases h
      refine ⟨0, p.1, (keq_eq _ _ hc).symm, rfl, valV_pos rfl, fun n => ?_⟩
      unfold setK
      rw [hc, if_pos rfl]
      exact ⟨rfl, rfl⟩
    | false =>
      rw [hc, if_neg (by decide)] at h
      obtain ⟨j, k, rfl, h1, h2, h3⟩ := look_zoom hk hr h
      rw [hk] at hc
      refine ⟨j + 1, k, rfl, h1, ?_, fun n => ?_⟩
      · rw [valV_neg (of_decide_eq_false hc), h2]; rfl
      · obtain ⟨g1, g2⟩ := h3 n
        unfold setK
        rw [hk, hc, if_neg (by decide)]
        refine ⟨?_, ?_⟩
        · show kd p.1 :: (setK (kd k) n r').map (·.1) = kd p.1 :: r'.map (·.1)
          rw [g1]
        · show x :: (setK (kd k) n r').map (·.2) = x :: (r'.map (·.2)).set j n
          rw [g2]
end Tg

namespace Tg
open PySem PySem.Spec L2
section
variable {K : PySem.W.Frag} {cl : Cl} {W W' : List Addr} {H H' : Hp}
mutual
/-- what has no frozen part -/
theorem Own.nf : ∀ {v : V} {d : D} {F : List Addr} (W' : List Addr), Own K cl W H v d F → d.nf = true → Own K cl W' H v d F
  | _, _, _, W', .scr h hn, e => nomatch e
  | _, _, _, W', .scrK h, e => nomatch e
  | _, _, _, W', .non, _ => .non
  | _, _, _, W', .bl b, _ => .bl b
  | _, _, _, W', .int i, _ => .int i
  | _, _, _, W', .str x, _ => .str x
  | _, _, _, W', .tup h hs, e => .tup h (Owns.nf W' hs e)
  | _, _, _, W', .lstO h hs, e => .lstO h (Owns.nf W' hs (by have e' : (true && _) = true := e; rwa [Bool.true_and] at e'))
  | _, _, _, W', .lstF h hn hs, e => nomatch e
  | _, _, _, W', .dicO (ds := ds) h e hs, q => .dicO h e (Owns.nf W' hs (by have e' : (true && _) = true := q; rw [Bool.true_and, nfk_eq] at e'; exact e'))
  | _, _, _, W', .dicF h hn e hs, q => nomatch q
  | _, _, _, W', .dtO (ds := ds) h e hs, q => .dtO h e (Owns.nf W' hs (by have e' : (true && _) = true := q; rw [Bool.true_and, nfk_eq] at e'; exact e'))
  | _, _, _, W', .dtF h hn e hs, q => nomatch q
  | _, _, _, W', .dnO (kvs := kvs) (ds := ds) h ok ks e hs, q => .dnO h ok (Owns.nf W' ks (by rw [← e]; exact nkDp_nfs _)) e (Owns.nf W' hs (by have e' : (true && _) = true := q; rw [Bool.true_and, nfk_eq] at e'; exact e'))
  | _, _, _, W', .dnF h hn ok ks e hs, q => nomatch q
  | _, _, _, W', .objO (ds := ds) h e hs, q => .objO h e (Owns.nf W' hs (by have e' : (true && _) = true := q; rw [Bool.true_and, nff_eq] at e'; exact e'))
  | _, _, _, W', .objF h hn e hs, q => nomatch q
  | _, _, _, W', .hole v, _ => .hole v
theorem Owns.nf : ∀ {vs : List V} {ds : List D} {F : List Addr} (W' : List Addr), Owns K cl W H vs ds F → D.nfs ds = true → Owns K cl W' H vs ds F
  | _, _, _, W', .nil, _ => .nil
  | _, _, _, W', .cons h hs, e => by
    have e' : (_ && _) = true := e
    rw [Bool.and_eq_true] at e'
    exact .cons (Own.nf W' h e'.1) (Owns.nf W' hs e'.2)
theorem nfk_eq : ∀ ds : List (D × D), D.nfk ds = D.nfs (ds.map (·.2))
  | [] => rfl
  | (k, x) :: r => by show (x.nf && _) = (x.nf && _); rw [nfk_eq r]
theorem nff_eq : ∀ ds : List (Str × D), D.nff ds = D.nfs (ds.map (·.2))
  | [] => rfl
  | (k, x) :: r => by show (x.nf && _) = (x.nf && _); rw [nff_eq r]
end

/-! ### the frame's names -/
/-- the tables tell code objects -/
def TabsOk (cl : Cl) (H : Hp) : Prop := ∀ p ∈ cl.tabs, TabS H p.1 p.2
theorem TabsOk.mono (t : TabsOk cl H) (e : Same H H') : TabsOk cl H' := fun p hp => e.tabs _ _ (t p hp)
structure EV (K : PySem.W.Frag) (cl : Cl) (W : List Addr) (H : Hp) (σ : St) (env : Env) : Prop where
  len : σ.length = env.length
  at_ : ∀ (i : Nat) (d : D), env[i]? = some d → d ≠ .hole → ∃ v F, σ[i]? = some (some v) ∧ Own K cl W H v d F
  tabs : TabsOk cl H
theorem EV.mono {σ : St} {env : Env} (e : Same H H') (h : EV K cl W H σ env) : EV K cl W H' σ env := ⟨h.len, fun i d h1 h2 => by
  obtain ⟨v, F, h3, h4⟩ := h.at_ i d h1 h2
  exact ⟨v, F, h3, h4.mono e⟩, h.tabs.mono e⟩
theorem EV.set {σ : St} {env : Env} {v : V} {d : D} {F : List Addr} (h : EV K cl W H σ env) (i : Nat) (o : Own K cl W H v d F) : EV K cl W H (σ.set i (some v)) (env.set i d) := by
  refine ⟨by rw [List.length_set, List.length_set]; exact h.len, fun j e h1 h2 => ?_, h.tabs⟩
  by_cases hj : i = j
  · subst hj
    have hl : i < env.length := by
      have := (List.getElem?_eq_some_iff.mp h1).1
      rwa [List.length_set] at this
    rw [List.getElem?_set_self hl] at h1
    cases h1
    exact ⟨v, F, by rw [List.getElem?_set_self (by rw [h.len]; exact hl)], o⟩
  · rw [List.getElem?_set_ne hj] at h1
    obtain ⟨u, G, h3, h4⟩ := h.at_ j e h1 h2
    exact ⟨u, G, by rw [List.getElem?_set_ne hj]; exact h3, h4⟩
/-- what W tells stands in the heap -/
def VD (W : List Addr) (H : Hp) : Prop := ∀ a ∈ W, H a ≠ none
theorem VD.mono (h : VD W H) (e : Same H H') : VD W H' := fun a ha q => h a ha (e.back q)
theorem same_new {p : Addr} {o : HO} (h : H p = none) : Same H (upd H p o) := Same.of fun a u e => by
  rw [upd_ne (ne_of_none e h)]
  exact e
end

/-- what is avoided: less; and more, where that is new -/
theorem Keep.re {K : PySem.W.Frag} {W W' F : List Addr} {H : Hp} (h : ∀ a, a ∉ W → H a ≠ none → a ∉ W') : Keep W W' F H H := ⟨fun a _ o q => q, fun a o _ q => q, fun a vs q => q, fun a o u q => q, h⟩
section
variable {K : PySem.W.Frag} {cl : Cl} {W W' G : List Addr} {H H' : Hp}
theorem Own.weak {v : V} {d : D} {F : List Addr} (o : Own K cl W H v d F) (h : ∀ a ∈ W', a ∈ W) : Own K cl W' H v d F := o.keep (Keep.re (K := K) fun a ha _ z => ha (h a z))
theorem Owns.weak {vs : List V} {ds : List D} {F : List Addr} (o : Owns K cl W H vs ds F) (h : ∀ a ∈ W', a ∈ W) : Owns K cl W' H vs ds F := o.keep (Keep.re (K := K) fun a ha _ z => ha (h a z))
theorem Own.grow {v : V} {d : D} {F : List Addr} (o : Own K cl W H v d F) (h : ∀ a ∈ W', a ∈ W ∨ H a = none) : Own K cl W' H v d F := o.keep (Keep.re (K := K) fun a ha hn z => (h a z).elim ha hn)
theorem Owns.grow {vs : List V} {ds : List D} {F : List Addr} (o : Owns K cl W H vs ds F) (h : ∀ a ∈ W', a ∈ W ∨ H a = none) : Owns K cl W' H vs ds F := o.keep (Keep.re (K := K) fun a ha hn z => (h a z).elim ha hn)
/-- .. and the heap grows -/
theorem Owns.growS {vs : List V} {ds : List D} {F : List Addr} (o : Owns K cl W H vs ds F) (s : Same H H') (h : ∀ a ∈ W', a ∈ W ∨ H a = none) : Owns K cl W' H' vs ds F := (o.grow h).mono s
theorem Own.growS {v : V} {d : D} {F : List Addr} (o : Own K cl W H v d F) (s : Same H H') (h : ∀ a ∈ W', a ∈ W ∨ H a = none) : Own K cl W' H' v d F := (o.grow h).mono s
theorem EV.grow {σ : St} {env : Env} (e : EV K cl W H σ env) (h : ∀ a ∈ W', a ∈ W ∨ H a = none) : EV K cl W' H σ env := ⟨e.len, fun i d h1 h2 => by
  obtain ⟨v, F, h3, h4⟩ := e.at_ i d h1 h2
  exact ⟨v, F, h3, h4.grow h⟩, e.tabs⟩
end
/-! ### what is to be shown of an expression -/
def wE (X : Cx) (e : Expr) : TE := fun σ H Q => ∀ (pins : List (Addr × Obj)) (s : Shared), Inv X pins σ H s → wpAny (model X.prog X.w) X.A (eval e X.env) (EP X pins σ Q) X.xe s
theorem pe_w {X : Cx} {e : Expr} : PE X e (wE X e) := ⟨fun pins s σ H Q I h => h pins s I⟩
theorem wE.of {X : Cx} {e : Expr} {t : TE} (h : PE X e t) {σ : St} {H : Hp} {Q : VK} (q : t σ H Q) : wE X e σ H Q := fun pins s I => h.run pins s σ H Q I q
/-- looked at -/
structure Pk (X : Cx) (cl : Cl) (e : Expr) (f : EE) : Prop where
  run : ∀ (W : List Addr) (env : Env) (d : D), f env = some d → ∀ (σ : St) (H : Hp), EV X.K cl W H σ env → VD W H → ∀ Q : VK, (∀ v H' F, Same H H' → Own X.K cl W H' v d F → Q v H') → wE X e σ H Q
/-- handed on -/
structure Se (X : Cx) (cl : Cl) (e : Expr) (f : EE) : Prop where
  run : ∀ (W : List Addr) (env : Env) (d : D), f env = some d → ∀ (σ : St) (H : Hp), EV X.K cl W H σ env → VD W H → ∀ Q : VK,
    (∀ v H' F, Same H H' → Own X.K cl (F ++ W) H' v d F → F.Nodup → (∀ a ∈ F, H a = none) → Q v H') → wE X e σ H Q
def wA (X : Cx) (es : List Expr) : TA := fun σ H Q => ∀ (pos : Pos) (pins : List (Addr × Obj)) (s : Shared), Inv X pins σ H s → wpAny (model X.prog X.w) X.A (spliced (backTo pos (starEach es X.env))) (AP X pins σ Q) X.xe s
theorem pa_w {X : Cx} {es : List Expr} : PA X es (wA X es) := ⟨fun pos pins s σ H Q I h => h pos pins s I⟩
theorem wA.of {X : Cx} {es : List Expr} {t : TA} (h : PA X es t) {σ : St} {H : Hp} {Q : List V → Hp → Prop} (q : t σ H Q) : wA X es σ H Q := fun pos pins s I => h.run pos pins s σ H Q I q
structure Sa (X : Cx) (cl : Cl) (es : List Expr) (f : EA) : Prop where
  run : ∀ (W : List Addr) (env : Env) (ds : List D), f env = some ds → ∀ (σ : St) (H : Hp), EV X.K cl W H σ env → VD W H → ∀ Q : List V → Hp → Prop,
    (∀ vs H' F, Same H H' → Owns X.K cl (F ++ W) H' vs ds F → F.Nodup → (∀ a ∈ F, H a = none) → Q vs H') → wA X es σ H Q
/-- .. looked at -/
structure Pa (X : Cx) (cl : Cl) (es : List Expr) (f : EA) : Prop where
  run : ∀ (W : List Addr) (env : Env) (ds : List D), f env = some ds → ∀ (σ : St) (H : Hp), EV X.K cl W H σ env → VD W H → ∀ Q : List V → Hp → Prop,
    (∀ vs H' F, Same H H' → Owns X.K cl W H' vs ds F → Q vs H') → wA X es σ H Q

section
variable {X : Cx} {cl : Cl} {a b c e : Expr} {f g h : EE} {pos : Pos}
theorem Se.pk (h : Se X cl e f) : Pk X cl e f := ⟨fun W env d e σ H E V Q q => h.run W env d e σ H E V Q fun v H' F s o _ _ => q v H' F s (o.weak fun a ha => List.mem_append_right _ ha)⟩
/-- a path where it is handed on -/
theorem Pk.se (h : Pk X cl e f) : Se X cl e (eSh f) := by
  refine ⟨fun W env d q σ H E V Q k => ?_⟩
  unfold eSh at q
  cases h1 : f env with
  | none => rw [h1] at q; cases q
  | some d' =>
    rw [h1] at q
    have q' : (if d'.sh then some d' else none) = some d := q
    by_cases hs : d'.sh = true
    · rw [if_pos hs] at q'
      cases q'
      refine h.run W env _ h1 σ H E V Q fun v H' F s o => ?_
      have := o.sh hs
      subst this
      exact k v H' [] s o List.nodup_nil (fun _ z => nomatch z)
    · rw [if_neg hs] at q'
      cases q'
theorem pk_var (i : Nat) {x : Str} (hN : X.N[i]? = some x := by rfl) (hv : Vis X.env.scope x := by first | exact Or.inl rfl | exact Or.inr (Or.inl rfl) | exact Or.inr (Or.inr rfl)) (hd : (x == ("__debug__" : Str)) = false := by decide)
    (hcd : (x == ("__classdict__" : Str)) = false := by decide) : Pk X cl (.Name x pos) (eVar i) := by
  refine ⟨fun W env d q σ H E V Q k => ?_⟩
  unfold eVar at q
  have h1 : env[i]? = some d ∧ d ≠ .hole := by
    split at q
    · cases q
    · rename_i e1 e2
      cases q
      exact ⟨e2, fun z => e1 z⟩
    · cases q
  obtain ⟨v, F, h3, h4⟩ := E.at_ i d h1.1 h1.2
  exact wE.of (pe_var hN hv hd hcd) ⟨v, h3, k v H F (Same.refl H) h4⟩
/-- a constant -/
theorem se_c {v : V} {d : D} (hp : PE X e (tC v)) (ho : ∀ W H, Own X.K cl W H v d []) : Se X cl e (eC d) := by
  refine ⟨fun W env d' q σ H E V Q k => ?_⟩
  cases q
  exact wE.of hp (k v H [] (Same.refl H) (ho W H) List.nodup_nil (fun _ z => nomatch z))
theorem se_int {i : Int} {j} : Se X cl (.Constant (.int i) j pos) (eC (.int i)) := se_c pe_int fun _ _ => .int i
theorem se_bl {i : Bool} {j} : Se X cl (.Constant (.bool i) j pos) (eC (.bl i)) := se_c pe_bl fun _ _ => .bl i
theorem se_non {j} : Se X cl (.Constant .none j pos) (eC .non) := se_c pe_non fun _ _ => .non
theorem ownStr {K : PySem.W.Frag} {W : List Addr} {H : Hp} (x : Str) : Own K cl W H (.str x) (.str x.cps.toList) [] := by
  have : x = ⟨x.cps.toList.toArray⟩ := by cases x; simp
  have h := Own.str (K := K) (cl := cl) (W := W) (H := H) x.cps.toList
  rw [← this] at h
  exact h
theorem se_str {x : Str} {l : List Nat} {j} (hl : x.cps.toList = l := by decide +kernel) : Se X cl (.Constant (.str x) j pos) (eC (.str l)) := by
  subst hl
  exact se_c pe_str fun _ _ => ownStr x
/-- a module's number, text -/
theorem se_gint {x : Str} {i : Int} {t : Tok} (hg : Gl X x) (hm : X.mg x = some (.int i t)) (hd : (x == ("__debug__" : Str)) = false := by decide) : Se X cl (.Name x pos) (eC (.int i)) := se_c (pe_glob (v := .int i) hg hm ⟨t, rfl⟩ hd) fun _ _ => .int i
theorem se_gstr {x z : Str} {l : List Nat} {t : Tok} (hg : Gl X x) (hm : X.mg x = some (.str z t)) (hl : z.cps.toList = l := by decide +kernel) (hd : (x == ("__debug__" : Str)) = false := by decide) : Se X cl (.Name x pos) (eC (.str l)) := by
  subst hl
  exact se_c (pe_glob (v := .str z) hg hm ⟨t, rfl⟩ hd) fun _ _ => ownStr z
/-! ### argument lists, displays -/
theorem sa_nil : Sa X cl [] eNil := ⟨fun W env ds q σ H E V Q k => by
  cases q
  exact wA.of pa_nil (k [] H [] (Same.refl H) .nil List.nodup_nil (fun _ z => nomatch z))⟩
theorem pa_nil' : Pa X cl [] eNil := ⟨fun W env ds q σ H E V Q k => by
  cases q
  exact wA.of pa_nil (k [] H [] (Same.refl H) .nil)⟩
theorem fresh_join {H H1 : Hp} {F G : List Addr} (s : Same H H1) (hF : F.Nodup) (hG : G.Nodup) (tF : ∀ a ∈ F, H1 a ≠ none) (nG : ∀ a ∈ G, H1 a = none) : (F ++ G).Nodup := by
  rw [List.nodup_append]
  exact ⟨hF, hG, fun a ha b hb e => tF a ha (by rw [e]; exact nG b hb)⟩
mutual
theorem Own.tracked {K : PySem.W.Frag} {W : List Addr} {H : Hp} : ∀ {v : V} {d : D} {F : List Addr}, Own K cl W H v d F → ∀ a ∈ F, H a ≠ none
  | _, _, _, .non, _, h => nomatch h
  | _, _, _, .bl b, _, h => nomatch h
  | _, _, _, .int i, _, h => nomatch h
  | _, _, _, .str x, _, h => nomatch h
  | _, _, _, .tup h hs, a, ha => Owns.tracked hs a ha
  | _, _, _, .lstO h hs, a, ha => by
    rcases List.mem_cons.mp ha with e | ha
    · rw [e, h]; simp
    · exact Owns.tracked hs a ha
  | _, _, _, .lstF h hn hs, _, z => nomatch z
  | _, _, _, .scr h _, _, z => nomatch z
  | _, _, _, .scrK h, _, z => nomatch z
  | _, _, _, .dicO h _ hs, a, ha => by
    rcases List.mem_cons.mp ha with e | ha
    · rw [e, h]; simp
    · exact Owns.tracked hs a ha
  | _, _, _, .dicF h hn _ hs, _, z => nomatch z
  | _, _, _, .dtO h _ hs, a, ha => by
    rcases List.mem_cons.mp ha with e | ha
    · rw [e, h]; simp
    · exact Owns.tracked hs a ha
  | _, _, _, .dtF h hn _ hs, _, z => nomatch z
  | _, _, _, .dnO h _ _ _ hs, a, ha => by
    rcases List.mem_cons.mp ha with e | ha
    · rw [e, h]; simp
    · exact Owns.tracked hs a ha
  | _, _, _, .dnF h hn _ _ _ hs, _, z => nomatch z
  | _, _, _, .objO h _ hs, a, ha => by
    rcases List.mem_cons.mp ha with e | ha
    · rw [e, h]; simp
    · exact Owns.tracked hs a ha
  | _, _, _, .objF h hn _ hs, _, z => nomatch z
  | _, _, _, .hole v, _, h => nomatch h
theorem Owns.tracked {K : PySem.W.Frag} {W : List Addr} {H : Hp} : ∀ {vs : List V} {ds : List D} {F : List Addr}, Owns K cl W H vs ds F → ∀ a ∈ F, H a ≠ none
  | _, _, _, .nil, _, h => nomatch h
  | _, _, _, .cons h hs, a, ha => (List.mem_append.mp ha).elim (Own.tracked h a) (Owns.tracked hs a)
end
theorem sa_cons {es : List Expr} {fs : EA} (h1 : Se X cl e f) (h2 : Sa X cl es fs) (hs : starEach (e :: es) X.env = (false, eval e X.env) :: starEach es X.env := by rfl) : Sa X cl (e :: es) (eCons f fs) := by
  refine ⟨fun W env ds q σ H E V Q k => ?_⟩
  unfold eCons at q
  cases e1 : f env with
  | none => rw [e1] at q; cases q
  | some d =>
    rw [e1] at q
    cases e2 : fs env with
    | none => rw [Option.bind_some, e2] at q; cases q
    | some dr =>
      rw [Option.bind_some, e2] at q
      cases q
      refine wA.of (pa_cons pe_w pa_w hs) ?_
      refine h1.run W env d e1 σ H E V _ fun v H1 F s1 o1 n1 f1 => ?_
      have V1 : VD (F ++ W) H1 := fun a ha => (List.mem_append.mp ha).elim (o1.tracked a) (V.mono s1 a)
      refine h2.run (F ++ W) env dr e2 σ H1 ((E.grow fun a ha => (List.mem_append.mp ha).elim (fun z => .inr (f1 a z)) .inl).mono s1) V1 _ fun vs H2 G s2 o2 n2 f2 => ?_
      refine k (v :: vs) H2 (F ++ G) (s1.trans s2) (.cons (o1.growS s2 fun a ha => ?_) (o2.weak fun a ha => ?_)) (fresh_join s1 n1 n2 o1.tracked f2) fun a ha => ?_
      · rcases List.mem_append.mp ha with ha | ha
        · rcases List.mem_append.mp ha with ha | ha
          · exact .inl (List.mem_append_left _ ha)
          · exact .inr (f2 a ha)
        · exact .inl (List.mem_append_right _ ha)
      · rcases List.mem_append.mp ha with ha | ha
        · rcases List.mem_append.mp ha with ha | ha
          · exact List.mem_append_right _ (List.mem_append_left _ ha)
          · exact List.mem_append_left _ ha
        · exact List.mem_append_right _ (List.mem_append_right _ ha)
      rcases List.mem_append.mp ha with ha | ha
      · exact f1 a ha
      · exact Same.back s1 (f2 a ha)
theorem pa_cons' {es : List Expr} {fs : EA} (h1 : Pk X cl e f) (h2 : Pa X cl es fs) (hs : starEach (e :: es) X.env = (false, eval e X.env) :: starEach es X.env := by rfl) : Pa X cl (e :: es) (eCons f fs) := by
  refine ⟨fun W env ds q σ H E V Q k => ?_⟩
  unfold eCons at q
  cases e1 : f env with
  | none => rw [e1] at q; cases q
  | some d =>
    rw [e1] at q
    cases e2 : fs env with
    | none => rw [Option.bind_some, e2] at q; cases q
    | some dr =>
      rw [Option.bind_some, e2] at q
      cases q
      refine wA.of (pa_cons pe_w pa_w hs) ?_
      refine h1.run W env d e1 σ H E V _ fun v H1 F s1 o1 => ?_
      refine h2.run W env dr e2 σ H1 (E.mono s1) (V.mono s1) _ fun vs H2 G s2 o2 => ?_
      exact k (v :: vs) H2 (F ++ G) (s1.trans s2) (.cons (o1.mono s2) o2)
theorem EA_len {es : List Expr} {fs : EA} (h2 : Sa X cl es fs) : True := trivial
theorem se_tup {es : List Expr} {fs : EA} {x1} (h : Sa X cl es fs) (hl : ∀ env ds, fs env = some ds → ds.length ≤ 1000) : Se X cl (.Tuple es x1 pos) (eTup fs) := by
  refine ⟨fun W env d q σ H E V Q k => ?_⟩
  unfold eTup at q
  cases e1 : fs env with
  | none => rw [e1] at q; cases q
  | some ds =>
    rw [e1] at q
    cases q
    refine wE.of (pe_tup pa_w) ?_
    refine h.run W env ds e1 σ H E V _ fun vs H1 F s1 o1 n1 f1 => ?_
    refine ⟨by rw [o1.length]; exact Nat.le_trans (hl env ds e1) (by rw [sizeLine_eq]; decide), fun p hp => ?_⟩
    exact k _ _ F (s1.trans (same_new hp)) (.tup upd_same (o1.mono (same_new hp))) n1 f1
theorem se_lst {es : List Expr} {fs : EA} (h : Sa X cl es fs) (hl : ∀ env ds, fs env = some ds → ds.length ≤ 1000) : Se X cl (.List es pos) (eLst fs) := by
  refine ⟨fun W env d q σ H E V Q k => ?_⟩
  unfold eLst at q
  cases e1 : fs env with
  | none => rw [e1] at q; cases q
  | some ds =>
    rw [e1] at q
    cases q
    refine wE.of (pe_lst pa_w) ?_
    refine h.run W env ds e1 σ H E V _ fun vs H1 F s1 o1 n1 f1 => ?_
    refine ⟨by rw [o1.length]; exact Nat.le_trans (hl env ds e1) (by rw [sizeLine_eq]; decide), fun p hp => ?_⟩
    refine k _ _ (p :: F) (s1.trans (same_new hp)) (.lstO upd_same (o1.growS (same_new hp) fun a ha => (List.mem_cons.mp ha).elim (fun z => .inr (by rw [z]; exact hp)) .inl)) (List.nodup_cons.mpr ⟨fun hm => o1.tracked p hm hp, n1⟩) fun a ha => ?_
    rcases List.mem_cons.mp ha with e | ha
    · rw [e]; exact Same.back s1 hp
    · exact f1 a ha
end
end Tg

namespace Tg
open PySem PySem.Spec L2
/-! ### inversion -/
section
variable {K : PySem.W.Frag} {cl : Cl} {W : List Addr} {H : Hp} {v : V} {F : List Addr}
theorem own_int {i : Int} (h : Own K cl W H v (.int i) F) : v = .int i := by cases h; rfl
theorem own_bl {i : Bool} (h : Own K cl W H v (.bl i) F) : v = .bl i := by cases h; rfl
theorem own_non (h : Own K cl W H v .non F) : v = .non := by cases h; rfl
theorem own_str {x : List Nat} (h : Own K cl W H v (.str x) F) : v = .str ⟨x.toArray⟩ := by cases h; rfl
theorem own_tup {ds : List D} (h : Own K cl W H v (.tup ds) F) : ∃ a vs, v = .ref a ∧ SqT K H a vs ∧ Owns K cl W H vs ds F := by
  cases h with
  | tup h hs => exact ⟨_, _, rfl, SqT.of h, hs⟩
theorem own_tupH {ds : List D} (h : Own K cl W H v (.tup ds) F) : ∃ a vs, v = .ref a ∧ H a = some (.tup vs) ∧ Owns K cl W H vs ds F := by
  cases h with
  | tup h hs => exact ⟨_, _, rfl, h, hs⟩
theorem own_lst {o : Bool} {ds : List D} (h : Own K cl W H v (.lst o ds) F) : ∃ a vs G, v = .ref a ∧ H a = some (.lst vs) ∧ Owns K cl W H vs ds G ∧ ∀ b ∈ G, b ∈ F := by
  cases h with
  | lstO h hs => exact ⟨_, _, _, rfl, h, hs, fun b hb => List.mem_cons_of_mem _ hb⟩
  | lstF h hn hs => exact ⟨_, _, _, rfl, h, hs, fun b hb => hb⟩
theorem own_scr {ns : List Int} (h : Own K cl W H v (.scr ns) F) : ∃ a, v = .ref a ∧ SqL K H a (ns.map V.int) := by
  cases h with
  | scr h hn => exact ⟨_, rfl, .inl h⟩
  | scrK h => exact ⟨_, rfl, .inr h⟩
theorem own_ints {ns : List Int} : Owns K cl W H (ns.map V.int) (ns.map D.int) [] := by
  induction ns with
  | nil => exact .nil
  | cons n r ih => exact Owns.cons (F := []) (G := []) (.int n) ih
end
/-- what follows an operation -/
abbrev Po (K : PySem.W.Frag) (cl : Cl) (W : List Addr) (H : Hp) (d : D) (Q : VK) : Prop := ∀ v H' F, Same H H' → Own K cl (F ++ W) H' v d F → F.Nodup → (∀ a ∈ F, H a = none) → Q v H'
abbrev Pp (K : PySem.W.Frag) (cl : Cl) (W : List Addr) (H : Hp) (d : D) (Q : VK) : Prop := ∀ v H' F, Same H H' → Own K cl W H' v d F → Q v H'
section
variable {K : PySem.W.Frag} {cl : Cl} {W : List Addr} {H : Hp} {Q : VK}
theorem Po.int {i : Int} (k : Po K cl W H (.int i) Q) : Q (.int i) H := k _ _ [] (Same.refl H) (.int i) List.nodup_nil (fun _ z => nomatch z)
theorem Po.bl {i : Bool} (k : Po K cl W H (.bl i) Q) : Q (.bl i) H := k _ _ [] (Same.refl H) (.bl i) List.nodup_nil (fun _ z => nomatch z)
theorem Po.str {x : List Nat} (k : Po K cl W H (.str x) Q) : Q (.str ⟨x.toArray⟩) H := k _ _ [] (Same.refl H) (.str x) List.nodup_nil (fun _ z => nomatch z)
theorem Po.str' {x : Str} {l : List Nat} (e : x.cps.toList = l) (k : Po K cl W H (.str l) Q) : Q (.str x) H := by
  subst e
  exact k _ _ [] (Same.refl H) (ownStr x) List.nodup_nil (fun _ z => nomatch z)
theorem Po.lst {vs : List V} {ds : List D} (k : Po K cl W H (.lst true ds) Q) (o : Owns K cl W H vs ds []) (p : Addr) (hp : H p = none) : Q (.ref p) (upd H p (.lst vs)) :=
  k _ _ [p] (same_new hp) (Own.lstO (F := []) upd_same (o.growS (same_new hp) fun a ha => (List.mem_cons.mp ha).elim (fun z => .inr (by rw [z]; exact hp)) .inl)) (by simp) (fun a ha => by rw [List.mem_singleton.mp ha]; exact hp)
theorem Po.tup {vs : List V} {ds : List D} (k : Po K cl W H (.tup ds) Q) (o : Owns K cl W H vs ds []) (p : Addr) (hp : H p = none) : Q (.ref p) (upd H p (.tup vs)) :=
  k _ _ [] (same_new hp) (Own.tup (F := []) upd_same (o.mono (same_new hp))) List.nodup_nil (fun _ z => nomatch z)
theorem Po.tup0 {vs : List V} {ds : List D} {a : Addr} (k : Po K cl W H (.tup ds) Q) (o : Owns K cl W H vs ds []) (h : H a = some (.tup vs)) : Q (.ref a) H :=
  k _ _ [] (Same.refl H) (Own.tup (F := []) h o) List.nodup_nil (fun _ z => nomatch z)
end
/-- an operation on two values, by a rule of the hand layer -/
structure GO (X : Cx) (cl : Cl) (f : Value → Value → Sem Value) (g : D → D → Option D) : Prop where
  run : ∀ dx dy d, g dx dy = some d → ∃ r : R2, OpR X f r ∧ ∀ W H x y Fx Fy, VD W H → Own X.K cl W H x dx Fx → Own X.K cl W H y dy Fy → ∀ Q : VK, Po X.K cl W H d Q → r x y H Q
section
variable {X : Cx} {cl : Cl} {a b c e : Expr} {f g h : EE} {pos : Pos}
theorem bind2 {α β γ : Type} {o : Option α} {p : Option β} {k : α → β → Option γ} {d : γ} (h : (o.bind fun x => p.bind fun y => k x y) = some d) : ∃ x y, o = some x ∧ p = some y ∧ k x y = some d := by
  cases o with
  | none => cases h
  | some x =>
    cases p with
    | none => cases h
    | some y => exact ⟨x, y, rfl, rfl, h⟩
theorem bind1 {α γ : Type} {o : Option α} {k : α → Option γ} {d : γ} (h : o.bind k = some d) : ∃ x, o = some x ∧ k x = some d := by
  cases o with
  | none => cases h
  | some x => exact ⟨x, rfl, h⟩
theorem se_bin {op : Operator} {G : D → D → Option D} (o : GO X cl (binaryOp op) G) (ha : Pk X cl a f) (hb : Pk X cl b g) : Se X cl (.BinOp a op b pos) (eOp G f g) := by
  refine ⟨fun W env d q σ H E V Q k => ?_⟩
  obtain ⟨dx, dy, e1, e2, e3⟩ := bind2 q
  obtain ⟨r, hr, run⟩ := o.run dx dy d e3
  refine wE.of (pe_op hr pe_w pe_w) ?_
  refine ha.run W env dx e1 σ H E V _ fun v H1 F s1 o1 => ?_
  refine hb.run W env dy e2 σ H1 (E.mono s1) (V.mono s1) _ fun u H2 G' s2 o2 => ?_
  exact run W H2 v u F G' ((V.mono s1).mono s2) (o1.mono s2) o2 Q fun z H3 F3 s3 o3 n3 f3 => k z H3 F3 ((s1.trans s2).trans s3) o3 n3 fun x hx => Same.back (s1.trans s2) (f3 x hx)
theorem se_cmp {op : CmpOp} {G : D → D → Option D} (o : GO X cl (compareOp op) G) (ha : Pk X cl a f) (hb : Pk X cl b g) (hm : behindInMarks op b = false) : Se X cl (.Compare a [op] [b] pos) (eOp G f g) := by
  refine ⟨fun W env d q σ H E V Q k => ?_⟩
  obtain ⟨dx, dy, e1, e2, e3⟩ := bind2 q
  obtain ⟨r, hr, run⟩ := o.run dx dy d e3
  refine wE.of (pe_cmpR hr pe_w pe_w hm) ?_
  refine ha.run W env dx e1 σ H E V _ fun v H1 F s1 o1 => ?_
  refine hb.run W env dy e2 σ H1 (E.mono s1) (V.mono s1) _ fun u H2 G' s2 o2 => ?_
  exact run W H2 v u F G' ((V.mono s1).mono s2) (o1.mono s2) o2 Q fun z H3 F3 s3 o3 n3 f3 => k z H3 F3 ((s1.trans s2).trans s3) o3 n3 fun x hx => Same.back (s1.trans s2) (f3 x hx)
/-! ### the operators -/
theorem go_add : GO X cl (binaryOp .Add) gAdd := ⟨fun dx dy d q => by
  unfold gAdd at q
  split at q
  · cases q
    refine ⟨_, op_add, fun W H x y Fx Fy V ox oy Q k => ?_⟩
    cases own_int ox
    cases own_int oy
    exact ⟨_, _, rfl, rfl, k.int⟩
  · split at q
    · rename_i hz
      cases q
      refine ⟨_, op_add_str, fun W H x y Fx Fy V ox oy Q k => ?_⟩
      cases own_str ox
      cases own_str oy
      refine ⟨_, _, rfl, rfl, ?_, k.str' ?_⟩
      · rw [line_eq] at hz
        simpa [Str.length] using hz
      · rename_i xs ys
        have := TL.tl_append (⟨xs.toArray⟩ : Str) ⟨ys.toArray⟩
        exact this
    · cases q
  · split at q
    · rename_i hz
      simp only [Bool.and_eq_true, decide_eq_true_eq] at hz
      obtain ⟨⟨h1, h2⟩, h3⟩ := hz
      cases q
      refine ⟨_, op_cat, fun W H x y Fx Fy V ox oy Q k => ?_⟩
      obtain ⟨p, vs, G, rfl, hp, hs, _⟩ := own_lst ox
      obtain ⟨p', vs', G', rfl, hp', hs', _⟩ := own_lst oy
      refine ⟨p, p', vs, vs', rfl, rfl, hp, hp', by rw [hs.length, hs'.length, ← line_eq]; exact h3, fun l hl => ?_⟩
      exact Po.lst k (Owns.append (F := []) (G := []) (hs.shs h1) (hs'.shs h2)) l hl
    · cases q
  · split at q
    · rename_i hz
      simp only [Bool.and_eq_true, decide_eq_true_eq] at hz
      obtain ⟨⟨h1, h2⟩, h5⟩ := hz
      cases q
      refine ⟨_, op_catA, fun W H x y Fx Fy V ox oy Q k => ?_⟩
      obtain ⟨p, vs, rfl, hp, hs⟩ := own_tupH ox
      obtain ⟨p', vs', rfl, hp', hs'⟩ := own_tupH oy
      have hb := Owns.append (F := []) (G := []) (hs.shs h1) (hs'.shs h2)
      refine ⟨p, p', vs, vs', rfl, rfl, SqT.of hp, SqT.of hp', by rw [hs.length, hs'.length, ← line_eq]; exact h5, fun e => ?_, fun _ e => ?_, fun _ _ l hl => ?_⟩
      · subst e
        exact Po.tup0 k hb hp'
      · subst e
        rw [List.append_nil] at hb
        exact Po.tup0 k hb hp
      exact Po.tup k hb l hl
    · cases q
  · cases q⟩
theorem go_I {F : Value → Value → Sem Value} {C : Int → Int → Prop} {g : Int → Int → D} {gv : Int → Int → V} {G : D → D → Option D} (ho : OpR X F (rI C gv)) (hG : ∀ dx dy d, G dx dy = some d → ∃ i j, dx = .int i ∧ dy = .int j ∧ C i j ∧ d = g i j)
    (hv : ∀ i j W H, Own X.K cl W H (gv i j) (g i j) []) : GO X cl F G := ⟨fun dx dy d q => by
  obtain ⟨i, j, rfl, rfl, hc, rfl⟩ := hG dx dy d q
  refine ⟨_, ho, fun W H x y Fx Fy V ox oy Q k => ?_⟩
  cases own_int ox
  cases own_int oy
  exact ⟨i, j, rfl, rfl, hc, k _ _ [] (Same.refl H) (hv i j W H) List.nodup_nil (fun _ z => nomatch z)⟩⟩
theorem go_I0 {F : Value → Value → Sem Value} {g : Int → Int → D} {gv : Int → Int → V} {G : D → D → Option D} (ho : OpR X F (rI0 gv)) (hG : ∀ dx dy d, G dx dy = some d → ∃ i j, dx = .int i ∧ dy = .int j ∧ d = g i j)
    (hv : ∀ i j W H, Own X.K cl W H (gv i j) (g i j) []) : GO X cl F G := ⟨fun dx dy d q => by
  obtain ⟨i, j, rfl, rfl, rfl⟩ := hG dx dy d q
  refine ⟨_, ho, fun W H x y Fx Fy V ox oy Q k => ?_⟩
  cases own_int ox
  cases own_int oy
  exact ⟨i, j, rfl, rfl, k _ _ [] (Same.refl H) (hv i j W H) List.nodup_nil (fun _ z => nomatch z)⟩⟩
theorem go_sub : GO X cl (binaryOp .Sub) gSub := go_I0 op_sub (fun dx dy d q => by
  unfold gSub at q
  split at q
  · cases q; exact ⟨_, _, rfl, rfl, rfl⟩
  · cases q) fun i j _ _ => .int (i - j)
theorem opMulAny {i j : Int} (hc : i.natAbs.log2 + j.natAbs.log2 < 1000000 ∨ (-(2 ^ 64) < i ∧ i < 2 ^ 64) ∨ (-(2 ^ 64) < j ∧ j < 2 ^ 64)) : ∃ C : Int → Int → Prop, C i j ∧ ∀ X : Cx, OpR X (binaryOp .Mult) (rI C fun i j => .int (i * j)) := by
  rcases hc with hc | hc
  · exact ⟨CMulW, hc, fun X => op_mulW⟩
  · exact ⟨CMul, hc, fun X => op_mul⟩
theorem go_mul : GO X cl (binaryOp .Mult) gMul := ⟨fun dx dy d q => by
  unfold gMul at q
  split at q
  · split at q
    · rename_i hc
      cases q
      obtain ⟨C, c1, ho⟩ := opMulAny hc
      refine ⟨_, ho X, fun W H x y Fx Fy V ox oy Q k => ?_⟩
      cases own_int ox
      cases own_int oy
      exact ⟨_, _, rfl, rfl, c1, k.int⟩
    · cases q
  · split at q
    · rename_i hz
      simp only [Bool.and_eq_true, decide_eq_true_eq] at hz
      obtain ⟨h1, h2, h3, h4⟩ := hz
      cases q
      refine ⟨_, op_rep, fun W H x y Fx Fy V ox oy Q k => ?_⟩
      obtain ⟨p, vs, G, rfl, hp, hs, _⟩ := own_lst ox
      cases own_int oy
      exact ⟨p, _, vs, rfl, rfl, hp, h2, h3, by rw [hs.length, ← line_eq]; exact h4, fun l hl => Po.lst k (Owns.rep (hs.shs h1) _) l hl⟩
    · cases q
  · cases q⟩
theorem go_div : GO X cl (binaryOp .FloorDiv) gDiv := ⟨fun dx dy d q => by
  unfold gDiv at q
  split at q
  · split at q
    · rename_i hc
      cases q
      obtain ⟨h0, hc⟩ := hc
      rcases hc with hc | hc
      · refine ⟨_, op_fdiv, fun W H x y Fx Fy V ox oy Q k => ?_⟩
        cases own_int ox
        cases own_int oy
        exact ⟨_, _, rfl, rfl, ⟨h0, hc⟩, k.int⟩
      · refine ⟨_, op_fdivW, fun W H x y Fx Fy V ox oy Q k => ?_⟩
        cases own_int ox
        cases own_int oy
        exact ⟨_, _, rfl, rfl, ⟨h0, hc⟩, k.int⟩
    · cases q
  · cases q⟩
theorem go_mod : GO X cl (binaryOp .Mod) gMod := go_I op_mod (fun dx dy d q => by
  unfold gMod at q
  split at q
  · split at q
    · cases q; exact ⟨_, _, rfl, rfl, by assumption, rfl⟩
    · cases q
  · cases q) fun i j _ _ => .int (i % j)
theorem go_pow : GO X cl (binaryOp .Pow) gPow := go_I op_pow (fun dx dy d q => by
  unfold gPow at q
  split at q
  · split at q
    · cases q; exact ⟨_, _, rfl, rfl, by assumption, rfl⟩
    · cases q
  · cases q) fun i j _ _ => .int (i ^ j.toNat)
theorem go_shl : GO X cl (binaryOp .LShift) gShl := go_I op_shl (fun dx dy d q => by
  unfold gShl at q
  split at q
  · split at q
    · cases q; exact ⟨_, _, rfl, rfl, by assumption, rfl⟩
    · cases q
  · cases q) fun i j _ _ => .int (i * 2 ^ j.toNat)
theorem go_shr : GO X cl (binaryOp .RShift) gShr := go_I op_shr (fun dx dy d q => by
  unfold gShr at q
  split at q
  · split at q
    · cases q; exact ⟨_, _, rfl, rfl, by assumption, rfl⟩
    · cases q
  · cases q) fun i j _ _ => .int (i / 2 ^ j.toNat)
theorem go_nn {F : Value → Value → Sem Value} {gv : Int → Int → Int} {g : Nat → Nat → Nat} {G : D → D → Option D} (ho : OpR X F (rI0 fun i j => .int (gv i j))) (hG : ∀ dx dy d, G dx dy = some d → ∃ i j, dx = .int i ∧ dy = .int j ∧ 0 ≤ i ∧ 0 ≤ j ∧ d = .int ((g i.toNat j.toNat : Nat) : Int))
    (hv : ∀ i j : Int, 0 ≤ i → 0 ≤ j → gv i j = ((g i.toNat j.toNat : Nat) : Int)) : GO X cl F G := ⟨fun dx dy d q => by
  obtain ⟨i, j, rfl, rfl, h1, h2, rfl⟩ := hG dx dy d q
  refine ⟨_, ho, fun W H x y Fx Fy V ox oy Q k => ?_⟩
  cases own_int ox
  cases own_int oy
  refine ⟨i, j, rfl, rfl, ?_⟩
  show Q (.int (gv i j)) H
  rw [hv i j h1 h2]
  exact k.int⟩
theorem nnG {g : Nat → Nat → Nat} {G : D → D → Option D} (e : ∀ i j : Int, G (.int i) (.int j) = if 0 ≤ i ∧ 0 ≤ j then some (.int ((g i.toNat j.toNat : Nat) : Int)) else none) {i j : Int} {d : D} (q : G (.int i) (.int j) = some d) :
    ∃ i' j', D.int i = .int i' ∧ D.int j = .int j' ∧ 0 ≤ i' ∧ 0 ≤ j' ∧ d = .int ((g i'.toNat j'.toNat : Nat) : Int) := by
  rw [e] at q
  split at q
  · rename_i hc
    cases q
    exact ⟨i, j, rfl, rfl, hc.1, hc.2, rfl⟩
  · cases q
theorem go_andB : GO X cl (binaryOp .BitAnd) gAndB := go_nn op_and (fun dx dy d q => by
  unfold gAndB at q
  split at q
  · split at q
    · rename_i hc
      cases q
      exact ⟨_, _, rfl, rfl, hc.1, hc.2, rfl⟩
    · cases q
  · cases q) fun i j h1 h2 => PyProof.Rows.bitAnd_pp h1 h2
theorem go_orB : GO X cl (binaryOp .BitOr) gOrB := go_nn op_or (fun dx dy d q => by
  unfold gOrB at q
  split at q
  · split at q
    · rename_i hc
      cases q
      exact ⟨_, _, rfl, rfl, hc.1, hc.2, rfl⟩
    · cases q
  · cases q) fun i j h1 h2 => Bits.bitOr_pp h1 h2
theorem go_xorB : GO X cl (binaryOp .BitXor) gXorB := go_nn op_xor (fun dx dy d q => by
  unfold gXorB at q
  split at q
  · split at q
    · rename_i hc
      cases q
      exact ⟨_, _, rfl, rfl, hc.1, hc.2, rfl⟩
    · cases q
  · cases q) fun i j h1 h2 => Bits.bitXor_pp h1 h2
theorem go_lt : GO X cl (compareOp .Lt) gLt := go_I0 op_lt (fun dx dy d q => by
  unfold gLt at q
  split at q
  · cases q; exact ⟨_, _, rfl, rfl, rfl⟩
  · cases q) fun i j _ _ => .bl (decide (i < j))
theorem go_le : GO X cl (compareOp .LtE) gLe := go_I0 op_le (fun dx dy d q => by
  unfold gLe at q
  split at q
  · cases q; exact ⟨_, _, rfl, rfl, rfl⟩
  · cases q) fun i j _ _ => .bl (decide (i ≤ j))
theorem go_gt : GO X cl (compareOp .Gt) gGt := go_I0 op_gt (fun dx dy d q => by
  unfold gGt at q
  split at q
  · cases q; exact ⟨_, _, rfl, rfl, rfl⟩
  · cases q) fun i j _ _ => .bl (decide (j < i))
theorem go_ge : GO X cl (compareOp .GtE) gGe := go_I0 op_ge (fun dx dy d q => by
  unfold gGe at q
  split at q
  · cases q; exact ⟨_, _, rfl, rfl, rfl⟩
  · cases q) fun i j _ _ => .bl (decide (j ≤ i))
end
end Tg

namespace Tg
open PySem PySem.Spec L2
/-! ### equality -/
mutual
def D.py : D → PyData
  | .non => .none
  | .bl b => .bool b
  | .int i => .int i
  | .str x => .str ⟨x.toArray⟩
  | .lst _ xs => .list (D.pys xs)
  | .tup xs => .tuple (D.pys xs)
  | _ => .none
def D.pys : List D → List PyData
  | [] => []
  | x :: xs => D.py x :: D.pys xs
end
mutual
theorem Own.dp {K : PySem.W.Frag} {cl : Cl} {W : List Addr} {H : Hp} : ∀ {v : V} {d : D} {F : List Addr} (n : Nat), Own K cl W H v d F → d.eqok n = true → Dp K H v d.py
  | _, _, _, _, .non, _ => .non
  | _, _, _, _, .bl b, _ => .bl b
  | _, _, _, _, .int i, _ => .int i
  | _, _, _, _, .str x, _ => .str _
  | _, _, _, n, .tup h hs, e => by
    cases n with
    | zero => cases e
    | succ n => exact .tup (SqT.of h) (Owns.dp n hs e)
  | _, _, _, n, .lstO h hs, e => by
    cases n with
    | zero => cases e
    | succ n => exact .lst (SqL.of h) (Owns.dp n hs e)
  | _, _, _, n, .lstF h hn hs, e => by
    cases n with
    | zero => cases e
    | succ n => exact .lst (SqL.of h) (Owns.dp n hs e)
  | _, _, _, n, .scr _ _, e => by cases n <;> cases e
  | _, _, _, n, .scrK _, e => by cases n <;> cases e
  | _, _, _, n, .dicO _ _ _, e => by cases n <;> cases e
  | _, _, _, n, .dicF _ _ _ _, e => by cases n <;> cases e
  | _, _, _, n, .dtO _ _ _, e => by cases n <;> cases e
  | _, _, _, n, .dtF _ _ _ _, e => by cases n <;> cases e
  | _, _, _, n, .dnO _ _ _ _ _, e => by cases n <;> cases e
  | _, _, _, n, .dnF _ _ _ _ _ _, e => by cases n <;> cases e
  | _, _, _, n, .objO _ _ _, e => by cases n <;> cases e
  | _, _, _, n, .objF _ _ _ _, e => by cases n <;> cases e
  | _, _, _, n, .hole _, e => by cases n <;> cases e
theorem Owns.dp {K : PySem.W.Frag} {cl : Cl} {W : List Addr} {H : Hp} : ∀ {vs : List V} {ds : List D} {F : List Addr} (n : Nat), Owns K cl W H vs ds F → D.eqoks n ds = true → DpAll K H vs (D.pys ds)
  | _, _, _, _, .nil, _ => .nil
  | _, _, _, n, .cons h hs, e => by
    unfold D.eqoks at e
    rw [Bool.and_eq_true] at e
    exact .cons (Own.dp n h e.1) (Owns.dp n hs e.2)
end
mutual
theorem D.py_ok : ∀ (n : Nat) (d : D), d.eqok n = true → d.py.canLay0 = true ∧ d.py.depth ≤ n
  | n, .non, _ => ⟨rfl, Nat.zero_le _⟩
  | n, .bl _, _ => ⟨rfl, Nat.zero_le _⟩
  | n, .int _, _ => ⟨rfl, Nat.zero_le _⟩
  | n, .str x, e => ⟨by
      have e' : (x.all fun c => decide (c < 1114112)) = true := by cases n <;> exact e
      show PyData.strOk ⟨x.toArray⟩ = true
      unfold PyData.strOk
      rw [Array.all_eq_true']
      intro c hc
      rw [List.all_eq_true] at e'
      have := e' c (by simpa using hc)
      simpa using this, Nat.zero_le _⟩
  | 0, .lst _ xs, e => by cases e
  | 0, .tup xs, e => by cases e
  | n + 1, .lst _ xs, e => by
    have h := D.pys_ok n xs e
    exact ⟨h.1, Nat.succ_le_succ h.2⟩
  | n + 1, .tup xs, e => by
    have h := D.pys_ok n xs e
    exact ⟨h.1, Nat.succ_le_succ h.2⟩
  | n, .scr _, e => by cases n <;> cases e
  | n, .dic _ _ _, e => by cases n <;> cases e
  | n, .obj _ _ _, e => by cases n <;> cases e
  | n, .hole, e => by cases n <;> cases e
theorem D.pys_ok : ∀ (n : Nat) (xs : List D), D.eqoks n xs = true → PyData.canLayAll0 (D.pys xs) = true ∧ PyData.depthAll (D.pys xs) ≤ n
  | n, [], _ => ⟨rfl, Nat.zero_le _⟩
  | n, x :: xs, e => by
    unfold D.eqoks at e
    rw [Bool.and_eq_true] at e
    have h1 := D.py_ok n x e.1
    have h2 := D.pys_ok n xs e.2
    refine ⟨?_, ?_⟩
    · show (x.py.canLay0 && PyData.canLayAll0 (D.pys xs)) = true
      rw [h1.1, h2.1]; rfl
    · show max x.py.depth (PyData.depthAll (D.pys xs)) ≤ n
      exact Nat.max_le.mpr ⟨h1.2, h2.2⟩
end
theorem D.py_shaped {n : Nat} (hn : n ≤ 64) {d : D} (e : d.eqok n = true) : SeqAt.shaped d.py = true := by
  have h := D.py_ok n d e
  unfold SeqAt.shaped
  rw [h.1, decide_eq_true (Nat.le_trans h.2 hn)]
  rfl
theorem strEqv (x y : List Nat) : ((⟨x.toArray⟩ : Str) == ⟨y.toArray⟩) = (x == y) := by
  rw [Bool.eq_iff_iff, beq_iff_eq, beq_iff_eq]
  constructor
  · intro h
    injection h with h
    simpa using h
  · intro h
    rw [h]
mutual
theorem D.py_eqv : ∀ (n m : Nat) (d e : D), d.eqok n = true → e.eqok m = true → PyData.eqv d.py e.py = D.eqv d e
  | n, m, .non, e, _, h => by cases e <;> first | rfl | (cases m <;> cases h)
  | n, m, .bl b, e, _, h => by cases e <;> first | rfl | (cases m <;> cases h)
  | n, m, .int i, e, _, h => by cases e <;> first | rfl | (cases m <;> cases h)
  | n, m, .str x, e, _, h => by cases e <;> first | rfl | exact strEqv _ _ | (cases m <;> cases h)
  | n + 1, m, .lst o xs, e, h1, h => by
    cases e <;> first | rfl | (cases m <;> first | (cases h; done) | exact D.pys_eqv n _ xs _ h1 h)
  | n + 1, m, .tup xs, e, h1, h => by
    cases e <;> first | rfl | (cases m <;> first | (cases h; done) | exact D.pys_eqv n _ xs _ h1 h)
  | 0, _, .lst _ _, _, h, _ => by cases h
  | 0, _, .tup _, _, h, _ => by cases h
  | n, _, .scr _, _, h, _ => by cases n <;> cases h
  | n, _, .dic _ _ _, _, h, _ => by cases n <;> cases h
  | n, _, .obj _ _ _, _, h, _ => by cases n <;> cases h
  | n, _, .hole, _, h, _ => by cases n <;> cases h
theorem D.pys_eqv : ∀ (n m : Nat) (xs ys : List D), D.eqoks n xs = true → D.eqoks m ys = true → PyData.eqvAll (D.pys xs) (D.pys ys) = D.eqvs xs ys
  | _, _, [], [], _, _ => rfl
  | _, _, [], _ :: _, _, _ => rfl
  | _, _, _ :: _, [], _, _ => rfl
  | n, m, x :: xs, y :: ys, h1, h2 => by
    unfold D.eqoks at h1 h2
    rw [Bool.and_eq_true] at h1 h2
    show (PyData.eqv x.py y.py && PyData.eqvAll (D.pys xs) (D.pys ys)) = (D.eqv x y && D.eqvs xs ys)
    rw [D.py_eqv n m x y h1.1 h2.1, D.pys_eqv n m xs ys h1.2 h2.2]
end
section
variable {X : Cx} {cl : Cl} {a b c e : Expr} {f g h : EE} {pos : Pos}
theorem eqD_cases {x y : D} {k : Bool} (q : eqD x y = some k) : (∃ s t, x = .str s ∧ y = .str t ∧ k = (s == t)) ∨ (x.eqok 60 = true ∧ y.eqok 60 = true ∧ k = D.eqv x y) := by
  unfold eqD at q
  split at q
  · cases q
    exact .inl ⟨_, _, rfl, rfl, rfl⟩
  · split at q
    · rename_i hh
      rw [Bool.and_eq_true] at hh
      cases q
      exact .inr ⟨hh.1, hh.2, rfl⟩
    · cases q
theorem map_bl {o : Option Bool} {t : Bool → D} {d : D} (q : o.map t = some d) : ∃ k, o = some k ∧ d = t k := by
  cases o with
  | none => cases q
  | some k => cases q; exact ⟨k, rfl, rfl⟩
theorem go_eq (hu : X.A.units + 64 < cLine) : GO X cl (compareOp .Eq) gEq := ⟨fun dx dy d q => by
  obtain ⟨k, h1, rfl⟩ := map_bl q
  rcases eqD_cases h1 with ⟨s, t, rfl, rfl, rfl⟩ | ⟨h2, h3, rfl⟩
  · refine ⟨_, op_eq, fun W H x y Fx Fy V ox oy Q k => ?_⟩
    cases own_str ox
    cases own_str oy
    refine ⟨rfl, ?_⟩
    rw [dec_str, strEqv]
    exact k.bl
  · refine ⟨_, op_eqD hu, fun W H x y Fx Fy V ox oy Q k => ?_⟩
    refine ⟨_, _, ox.dp 60 h2, oy.dp 60 h3, D.py_shaped (by decide) h2, D.py_shaped (by decide) h3, ?_⟩
    rw [D.py_eqv 60 60 _ _ h2 h3]
    exact k.bl⟩
theorem go_ne (hu : X.A.units + 64 < cLine) : GO X cl (compareOp .NotEq) gNe := ⟨fun dx dy d q => by
  obtain ⟨k, h1, rfl⟩ := map_bl q
  rcases eqD_cases h1 with ⟨s, t, rfl, rfl, rfl⟩ | ⟨h2, h3, rfl⟩
  · refine ⟨_, op_ne, fun W H x y Fx Fy V ox oy Q k => ?_⟩
    cases own_str ox
    cases own_str oy
    refine ⟨rfl, ?_⟩
    rw [dec_str, strEqv]
    exact k.bl
  · refine ⟨_, op_neD hu, fun W H x y Fx Fy V ox oy Q k => ?_⟩
    refine ⟨_, _, ox.dp 60 h2, oy.dp 60 h3, D.py_shaped (by decide) h2, D.py_shaped (by decide) h3, ?_⟩
    rw [D.py_eqv 60 60 _ _ h2 h3]
    exact k.bl⟩
/-! ### in -/
theorem own_flat {K : PySem.W.Frag} {W : List Addr} {H : Hp} {v : V} {d : D} {F : List Addr} (o : Own K cl W H v d F) (h : flat d = true) : flatV v = true := by
  cases o <;> first | rfl | cases h
theorem owns_flat {K : PySem.W.Frag} {W : List Addr} {H : Hp} : ∀ {vs : List V} {ds : List D} {F : List Addr}, Owns K cl W H vs ds F → ds.all flat = true → vs.all flatV = true
  | _, _, _, .nil, _ => rfl
  | _, _, _, .cons o os, h => by
    rw [List.all_cons, Bool.and_eq_true] at h ⊢
    exact ⟨own_flat o h.1, owns_flat os h.2⟩
theorem own_eqV {K : PySem.W.Frag} {W : List Addr} {H : Hp} {v u : V} {d e : D} {F G : List Addr} (o : Own K cl W H v d F) (p : Own K cl W H u e G) (h : flat d = true) (h' : flat e = true) : eqV v u = D.eqv d e := by
  cases o <;> first | (cases h; done) | (cases p <;> first | rfl | exact strEqv _ _ | (cases h'; done))
theorem owns_any {K : PySem.W.Frag} {W : List Addr} {H : Hp} {u : V} {e : D} {G : List Addr} (p : Own K cl W H u e G) (h' : flat e = true) : ∀ {vs : List V} {ds : List D} {F : List Addr}, Owns K cl W H vs ds F → ds.all flat = true → inV u vs = ds.any fun y => D.eqv y e
  | _, _, _, .nil, _ => rfl
  | _, _, _, .cons o os, h => by
    rw [List.all_cons, Bool.and_eq_true] at h
    have ih := owns_any p h' os h.2
    unfold inV at ih ⊢
    rw [List.any_cons, List.any_cons, own_eqV o p h.1 h', ih]
theorem inD_cases {x y : D} {k : Bool} (q : inD x y = some k) : (∃ c z, x = .str [c] ∧ y = .str z ∧ k = decide (c ∈ z)) ∨ (flat x = true ∧ ((∃ xs, y = .tup xs ∧ xs.all flat = true ∧ k = xs.any fun y => D.eqv y x) ∨ ∃ o xs, y = .lst o xs ∧ xs.all flat = true ∧ k = xs.any fun y => D.eqv y x)) := by
  unfold inD at q
  split at q
  · cases q
    exact .inl ⟨_, _, rfl, rfl, rfl⟩
  · split at q
    · rename_i hh
      rw [Bool.and_eq_true] at hh
      cases q
      exact .inr ⟨hh.1, .inl ⟨_, rfl, hh.2, rfl⟩⟩
    · cases q
  · split at q
    · rename_i hh
      rw [Bool.and_eq_true] at hh
      cases q
      exact .inr ⟨hh.1, .inr ⟨_, _, rfl, hh.2, rfl⟩⟩
    · cases q
  · cases q
theorem go_in : GO X cl (compareOp .In) gIn := ⟨fun dx dy d q => by
  obtain ⟨k, h1, rfl⟩ := map_bl q
  rcases inD_cases h1 with ⟨c, z, rfl, rfl, rfl⟩ | ⟨hf, h2⟩
  · refine ⟨_, op_in_sign, fun W H x y Fx Fy V ox oy Q k => ?_⟩
    cases own_str ox
    cases own_str oy
    exact ⟨c, _, rfl, rfl, k.bl⟩
  · refine ⟨_, op_in_seq, fun W H x y Fx Fy V ox oy Q k => ?_⟩
    rcases h2 with ⟨xs, rfl, h3, rfl⟩ | ⟨o, xs, rfl, h3, rfl⟩
    · obtain ⟨p, vs, rfl, hp, hs⟩ := own_tup oy
      refine ⟨p, vs, rfl, .inr hp, own_flat ox hf, owns_flat hs h3, ?_⟩
      rw [owns_any ox hf hs h3]
      exact k.bl
    · obtain ⟨p, vs, G, rfl, hp, hs, _⟩ := own_lst oy
      refine ⟨p, vs, rfl, .inl (SqL.of hp), own_flat ox hf, owns_flat hs h3, ?_⟩
      rw [owns_any ox hf hs h3]
      exact k.bl⟩
theorem go_notIn : GO X cl (compareOp .NotIn) gNotIn := ⟨fun dx dy d q => by
  obtain ⟨k, h1, rfl⟩ := map_bl q
  rcases inD_cases h1 with ⟨c, z, rfl, rfl, rfl⟩ | ⟨hf, h2⟩
  · refine ⟨_, op_notIn_sign, fun W H x y Fx Fy V ox oy Q k => ?_⟩
    cases own_str ox
    cases own_str oy
    exact ⟨c, _, rfl, rfl, k.bl⟩
  · refine ⟨_, op_notIn_seq, fun W H x y Fx Fy V ox oy Q k => ?_⟩
    rcases h2 with ⟨xs, rfl, h3, rfl⟩ | ⟨o, xs, rfl, h3, rfl⟩
    · obtain ⟨p, vs, rfl, hp, hs⟩ := own_tup oy
      refine ⟨p, vs, rfl, .inr hp, own_flat ox hf, owns_flat hs h3, ?_⟩
      rw [owns_any ox hf hs h3]
      exact k.bl
    · obtain ⟨p, vs, G, rfl, hp, hs, _⟩ := own_lst oy
      refine ⟨p, vs, rfl, .inl (SqL.of hp), own_flat ox hf, owns_flat hs h3, ?_⟩
      rw [owns_any ox hf hs h3]
      exact k.bl⟩
/-! ### is None -/
theorem own_isNon {K : PySem.W.Frag} {W : List Addr} {H : Hp} {v : V} {d : D} {F : List Addr} (o : Own K cl W H v d F) (h : d ≠ .hole) : decide (v = .non) = isNon d := by
  cases o <;> first | rfl | exact absurd rfl h
theorem se_isN {j pos'} (ha : Pk X cl a f) : Se X cl (.Compare a [.Is] [.Constant .none j pos'] pos) (eUn gIsN f) := by
  refine ⟨fun W env d q σ H E V Q k => ?_⟩
  obtain ⟨dx, e1, e2⟩ := bind1 q
  have hd : dx ≠ .hole ∧ d = .bl (isNon dx) := by
    unfold gIsN at e2
    split at e2
    · cases e2
    · rename_i hh
      cases e2
      exact ⟨fun z => hh z, rfl⟩
  obtain ⟨h1, rfl⟩ := hd
  refine wE.of (pe_cmpR op_isN pe_w pe_non (nomark _)) ?_
  refine ha.run W env dx e1 σ H E V _ fun v H1 F s1 o1 => ⟨rfl, ?_⟩
  rw [own_isNon o1 h1]
  exact k _ _ [] s1 (.bl _) List.nodup_nil (fun _ z => nomatch z)
theorem se_notN {j pos'} (ha : Pk X cl a f) : Se X cl (.Compare a [.IsNot] [.Constant .none j pos'] pos) (eUn gNotN f) := by
  refine ⟨fun W env d q σ H E V Q k => ?_⟩
  obtain ⟨dx, e1, e2⟩ := bind1 q
  have hd : dx ≠ .hole ∧ d = .bl (!isNon dx) := by
    unfold gNotN at e2
    split at e2
    · cases e2
    · rename_i hh
      cases e2
      exact ⟨fun z => hh z, rfl⟩
  obtain ⟨h1, rfl⟩ := hd
  refine wE.of (pe_cmpR op_notN pe_w pe_non (nomark _)) ?_
  refine ha.run W env dx e1 σ H E V _ fun v H1 F s1 o1 => ⟨rfl, ?_⟩
  rw [own_isNon o1 h1]
  exact k _ _ [] s1 (.bl _) List.nodup_nil (fun _ z => nomatch z)
/-! ### subscripts -/
theorem atD_mem {α : Type} {xs : List α} {i : Int} {x : α} (h : atD xs i = some x) : ∃ j, ixD xs.length i = some j ∧ xs[j]? = some x := by
  unfold atD at h
  obtain ⟨j, h1, h2⟩ := bind1 h
  exact ⟨j, h1, h2⟩
theorem owns_at {K : PySem.W.Frag} {W : List Addr} {H : Hp} {vs : List V} {ds : List D} {F : List Addr} {i : Int} {d : D} (h : Owns K cl W H vs ds F) (e : atD ds i = some d) : ∃ v G, atI vs i = some v ∧ Own K cl W H v d G ∧ ∀ a ∈ G, a ∈ F := by
  obtain ⟨j, h1, h2⟩ := atD_mem e
  obtain ⟨v, G, h3, h4, h5⟩ := h.get h2
  refine ⟨v, G, ?_, h4, h5⟩
  show (ixD vs.length i).bind _ = _
  rw [h.length, h1]
  exact h3
theorem pk_ix (ha : Pk X cl a f) (hb : Pk X cl b g) (hs : PlainIx b) : Pk X cl (.Subscript a b pos) (eOp gIx f g) := by
  refine ⟨fun W env d q σ H E V Q k => ?_⟩
  obtain ⟨dx, dy, e1, e2, e3⟩ := bind2 q
  refine wE.of (pe_ix ix_seq pe_w pe_w hs) ?_
  refine ha.run W env dx e1 σ H E V _ fun v H1 F s1 o1 => ?_
  refine hb.run W env dy e2 σ H1 (E.mono s1) (V.mono s1) _ fun u H2 G' s2 o2 => ?_
  have o1' := o1.mono s2
  have s := s1.trans s2
  unfold gIx at e3
  split at e3
  · obtain ⟨p, vs, rfl, hp, hs⟩ := own_tup o1'
    cases own_int o2
    obtain ⟨v, G, h1, h2, _⟩ := owns_at hs e3
    exact .inr (.inl ⟨p, vs, _, v, rfl, rfl, hp, h1, k v H2 G s h2⟩)
  · obtain ⟨p, vs, G0, rfl, hp, hs, _⟩ := own_lst o1'
    cases own_int o2
    obtain ⟨v, G, h1, h2, _⟩ := owns_at hs e3
    exact .inl ⟨p, vs, _, v, rfl, rfl, SqL.of hp, h1, k v H2 G s h2⟩
  · split at e3
    · rename_i hz
      cases own_str o1'
      cases own_int o2
      rename_i xs i
      cases hh : atD xs i with
      | none => rw [hh] at e3; cases e3
      | some c =>
        rw [hh] at e3
        cases e3
        refine .inr (.inr ⟨_, _, c, rfl, rfl, by rw [line_eq] at hz; simpa [Str.length] using hz, ?_, k _ H2 [] s (.str [c])⟩)
        exact hh
    · cases e3
  · obtain ⟨p, rfl, hp⟩ := own_scr o1'
    cases own_int o2
    rename_i ns i
    cases hh : atD ns i with
    | none => rw [hh] at e3; cases e3
    | some n =>
      rw [hh] at e3
      cases e3
      obtain ⟨j, h1, h2⟩ := atD_mem hh
      refine .inl ⟨p, _, _, .int n, rfl, rfl, hp, ?_, k _ H2 [] s (.int n)⟩
      show (ixD (ns.map L2.V.int).length i).bind _ = _
      rw [List.length_map, h1]
      show (ns.map L2.V.int)[j]? = _
      rw [List.getElem?_map, h2]
      rfl
  · cases e3
/-! ### slices -/
structure Po1 (X : Cx) (cl : Cl) (e : Option Expr) (f : Env → Option (Option Int)) : Prop where
  run : ∀ (W : List Addr) (env : Env) (o : Option Int), f env = some o → ∀ (σ : St) (H : Hp), EV X.K cl W H σ env → VD W H → ∀ Q : Option Int → Hp → Prop, (∀ H', Same H H' → Q o H') → ∃ t, PO X e t ∧ t σ H Q
theorem po1_none : Po1 X cl none pNone := ⟨fun W env o q σ H E V Q k => by
  cases q
  exact ⟨_, po_none, k H (Same.refl H)⟩⟩
theorem po1_some (h : Pk X cl e f) : Po1 X cl (some e) (pSome f) := ⟨fun W env o q σ H E V Q k => by
  unfold pSome at q
  cases e1 : f env with
  | none => rw [e1] at q; cases q
  | some d =>
    rw [e1] at q
    cases d <;> first | (cases q; done) | skip
    cases q
    refine ⟨_, po_some pe_w, ?_⟩
    refine h.run W env _ e1 σ H E V _ fun v H1 F s1 o1 => ?_
    cases own_int o1
    exact ⟨_, rfl, k H1 s1⟩⟩
theorem cutI_eq (n d : Nat) (o : Option Int) : cutI n d o = HT.sIx n d o := by
  cases o with
  | none => rfl
  | some v =>
    have h := HT.clip_eq v n d
    unfold cutI
    by_cases hv : v < 0
    · rw [if_pos hv] at h
      simp only [if_pos hv]
      omega
    · rw [if_neg hv] at h
      simp only [if_neg hv]
      omega
theorem cutD_V {vs : List V} {ds : List D} (h : vs.length = ds.length) (lo hi : Option Int) : cutV vs lo hi = (vs.drop (cutI ds.length 0 lo)).take (cutI ds.length ds.length hi - cutI ds.length 0 lo) := by
  unfold cutV
  rw [h, cutI_eq, cutI_eq]
theorem cutS_D (x : List Nat) (lo hi : Option Int) : (cutS ⟨x.toArray⟩ lo hi).cps.toList = cutD x lo hi := by
  have e : (⟨x.toArray⟩ : Str).cps.toList = x := rfl
  have e2 : (⟨x.toArray⟩ : Str).length = x.length := by simp [Str.length]
  unfold cutS cutD
  simp only [cutI_eq, e2]
theorem owns_cut {K : PySem.W.Frag} {W : List Addr} {H : Hp} {vs : List V} {ds : List D} {F : List Addr} (h : Owns K cl W H vs ds F) (e : D.shs ds = true) (lo hi : Option Int) : Owns K cl W H (cutV vs lo hi) (cutD ds lo hi) [] := by
  rw [cutD_V h.length]
  exact Owns.takeN _ (Owns.dropN _ h e) (shs_drop _ _ e)
theorem map_cut {α β : Type} (u : α → β) (xs : List α) (lo hi : Option Int) : (cutD xs lo hi).map u = cutD (xs.map u) lo hi := by
  unfold cutD
  rw [List.map_take, List.map_drop, List.length_map]
theorem se_cut {lo hi : Option Expr} {fl fh : Env → Option (Option Int)} {p2 : Pos} (ha : Pk X cl a f) (hl : Po1 X cl lo fl) (hh : Po1 X cl hi fh) : Se X cl (.Subscript a (.Slice lo hi none p2) pos) (eCut f fl fh) := by
  refine ⟨fun W env d q σ H E V Q k => ?_⟩
  unfold eCut at q
  obtain ⟨dx, e1, q1⟩ := bind1 q
  obtain ⟨ol, e2, q2⟩ := bind1 q1
  obtain ⟨oh, e3, q3⟩ := bind1 q2
  clear q q1 q2
  -- the parts' readings are chosen where they are read
  let tl : TO := fun σ H Q => ∃ t, PO X lo t ∧ t σ H Q
  let th : TO := fun σ H Q => ∃ t, PO X hi t ∧ t σ H Q
  have hpl : PO X lo tl := ⟨fun pins s σ H Q I h => by
    obtain ⟨t, h1, h2⟩ := h
    exact h1.run pins s σ H Q I h2⟩
  have hph : PO X hi th := ⟨fun pins s σ H Q I h => by
    obtain ⟨t, h1, h2⟩ := h
    exact h1.run pins s σ H Q I h2⟩
  have body : ∀ (r : L2.V → Option Int → Option Int → Hp → VK → Prop), (∀ v H1 F, Same H H1 → Own X.K cl W H1 v dx F → r v ol oh H1 Q) → tSl r (wE X a) tl th σ H Q := fun r hr =>
    ha.run W env dx e1 σ H E V _ fun v H1 F s1 o1 => hl.run W env ol e2 σ H1 (E.mono s1) (V.mono s1) _ fun H2 s2 => hh.run W env oh e3 σ H2 (E.mono (s1.trans s2)) ((V.mono s1).mono s2) _ fun H3 s3 =>
      hr v H3 F ((s1.trans s2).trans s3) ((o1.mono s2).mono s3)
  unfold gCut at q3
  split at q3
  · split at q3
    · rename_i hs
      cases q3
      refine wE.of (pe_slice sl_list pe_w hpl hph) (body _ fun v H1 F s1 o1 => ?_)
      obtain ⟨p, vs, G, rfl, hp, hv, _⟩ := own_lst o1
      refine ⟨p, vs, rfl, SqL.of hp, fun l hl => ?_⟩
      exact k _ _ [l] (s1.trans (same_new hl)) (Own.lstO (F := []) upd_same ((owns_cut hv hs ol oh).growS (same_new hl) fun a ha => (List.mem_cons.mp ha).elim (fun z => .inr (by rw [z]; exact hl)) .inl)) (by simp) (fun b hb => by rw [List.mem_singleton.mp hb]; exact Same.back s1 hl)
    · cases q3
  · rename_i ns
    cases q3
    refine wE.of (pe_slice sl_list pe_w hpl hph) (body _ fun v H1 F s1 o1 => ?_)
    obtain ⟨p, rfl, hp⟩ := own_scr o1
    refine ⟨p, _, rfl, hp, fun l hl => ?_⟩
    have e : cutV (ns.map L2.V.int) ol oh = (cutD ns ol oh).map L2.V.int := by
      rw [map_cut, cutD_V (ds := ns.map D.int) (by simp)]
      unfold cutD
      simp
    rw [e]
    exact k _ _ [l] (s1.trans (same_new hl)) (Own.lstO (F := []) upd_same own_ints) (by simp) (fun b hb => by rw [List.mem_singleton.mp hb]; exact Same.back s1 hl)
  · rename_i zs
    split at q3
    · rename_i hz
      cases q3
      refine wE.of (pe_slice sl_str pe_w hpl hph) (body _ fun v H1 F s1 o1 => ?_)
      cases own_str o1
      refine ⟨_, rfl, by rw [line_eq] at hz; simpa [Str.length] using hz, ?_⟩
      have h := ownStr (cl := cl) (K := X.K) (W := W) (H := H1) (cutS ⟨zs.toArray⟩ ol oh)
      rw [cutS_D] at h
      exact k _ _ [] s1 h List.nodup_nil (fun _ z => nomatch z)
    · cases q3
  · split at q3
    · rename_i hs
      cases q3
      refine wE.of (pe_slice sl_tupA pe_w hpl hph) (body _ fun v H1 F s1 o1 => ?_)
      obtain ⟨p, vs, rfl, hp, hv⟩ := own_tupH o1
      have hc := owns_cut hv hs ol oh
      refine ⟨p, vs, rfl, SqT.of hp, fun z => ?_, fun _ l hl => ?_⟩
      · have e : cutV vs ol oh = vs := by
          unfold cutV
          rw [z.1, z.2, List.drop_zero, Nat.sub_zero, List.take_length]
        rw [e] at hc
        exact k _ _ [] s1 (Own.tup (F := []) hp (hc)) List.nodup_nil (fun _ z => nomatch z)
      · exact k _ _ [] (s1.trans (same_new hl)) (Own.tup (F := []) upd_same (hc.mono (same_new hl))) List.nodup_nil (fun _ z => nomatch z)
    · cases q3
  · cases q3
end
end Tg

namespace Tg
open PySem PySem.Spec L2
/-! ### tests -/
def wT (X : Cx) (e : Expr) : TT := fun σ H Q => ∀ (pins : List (Addr × Obj)) (s : Shared), Inv X pins σ H s → wpAny (model X.prog X.w) X.A (isTrue e X.env (eval e X.env)) (TP X pins σ Q) X.xe s
theorem pt_w {X : Cx} {e : Expr} : PT X e (wT X e) := ⟨fun pins s σ H Q I h => h pins s I⟩
theorem wT.of {X : Cx} {e : Expr} {t : TT} (h : PT X e t) {σ : St} {H : Hp} {Q : Bool → Hp → Prop} (q : t σ H Q) : wT X e σ H Q := fun pins s I => h.run pins s σ H Q I q
def wW (X : Cx) (e : Expr) : TT := fun σ H Q => ∀ (whole : Sem Value) (pins : List (Addr × Obj)) (s : Shared), Inv X pins σ H s → wpAny (model X.prog X.w) X.A (isTrue e X.env whole) (TP X pins σ Q) X.xe s
theorem pw_w {X : Cx} {e : Expr} : PW X e (wW X e) := ⟨fun wh pins s σ H Q I h => h wh pins s I⟩
theorem wW.of {X : Cx} {e : Expr} {t : TT} (h : PW X e t) {σ : St} {H : Hp} {Q : Bool → Hp → Prop} (q : t σ H Q) : wW X e σ H Q := fun wh pins s I => h.run wh pins s σ H Q I q
structure Te (X : Cx) (cl : Cl) (e : Expr) (f : EE) : Prop where
  run : ∀ (W : List Addr) (env : Env) (b : Bool), f env = some (.bl b) → ∀ (σ : St) (H : Hp), EV X.K cl W H σ env → VD W H → ∀ Q : Bool → Hp → Prop, (∀ H', Same H H' → Q b H') → wT X e σ H Q
structure Tw (X : Cx) (cl : Cl) (e : Expr) (f : EE) : Prop where
  run : ∀ (W : List Addr) (env : Env) (b : Bool), f env = some (.bl b) → ∀ (σ : St) (H : Hp), EV X.K cl W H σ env → VD W H → ∀ Q : Bool → Hp → Prop, (∀ H', Same H H' → Q b H') → wW X e σ H Q
section
variable {X : Cx} {cl : Cl} {a b c e : Expr} {f g h : EE} {pos : Pos} {rest : List Expr}
theorem Tw.te (h : Tw X cl e f) : Te X cl e f := ⟨fun W env b q σ H E V Q k => fun pins s I => h.run W env b q σ H E V Q k _ pins s I⟩
theorem te_val (h : Pk X cl e f) (he : ∀ whole, isTrue e X.env whole = (do let v ← whole; standAt e.pos; holding [v] (truthy v)) := by intro _; rfl) : Te X cl e f := ⟨fun W env b q σ H E V Q k => by
  refine wT.of (pt_val pe_w he) ?_
  refine h.run W env _ q σ H E V _ fun v H1 F s1 o1 => ?_
  exact ⟨b, own_bl o1, k H1 s1⟩⟩
theorem te_cmp {op : CmpOp} {G : D → D → Option D} (o : GO X cl (compareOp op) G) (ha : Pk X cl a f) (hb : Pk X cl b g) (hm : behindInMarks op b = false) : Te X cl (.Compare a [op] [b] pos) (eOp G f g) := ⟨fun W env d q σ H E V Q k => by
  obtain ⟨dx, dy, e1, e2, e3⟩ := bind2 q
  obtain ⟨r, hr, run⟩ := o.run dx dy _ e3
  refine wT.of (pt_cmpR hr pe_w pe_w hm) ?_
  refine ha.run W env dx e1 σ H E V _ fun v H1 F s1 o1 => ?_
  refine hb.run W env dy e2 σ H1 (E.mono s1) (V.mono s1) _ fun u H2 G' s2 o2 => ?_
  exact run W H2 v u F G' ((V.mono s1).mono s2) (o1.mono s2) o2 _ fun z H3 F3 s3 o3 n3 f3 => ⟨d, own_bl o3, k H3 ((s1.trans s2).trans s3)⟩⟩
theorem te_isN {j pos'} (ha : Pk X cl a f) : Te X cl (.Compare a [.Is] [.Constant .none j pos'] pos) (eUn gIsN f) := ⟨fun W env d q σ H E V Q k => by
  obtain ⟨dx, e1, e2⟩ := bind1 q
  have hd : dx ≠ .hole ∧ d = isNon dx := by
    unfold gIsN at e2
    split at e2
    · cases e2
    · rename_i hh
      cases e2
      exact ⟨fun z => hh z, rfl⟩
  obtain ⟨h1, rfl⟩ := hd
  refine wT.of (pt_cmpR op_isN pe_w pe_non (nomark _)) ?_
  refine ha.run W env dx e1 σ H E V _ fun v H1 F s1 o1 => ⟨rfl, ?_⟩
  rw [own_isNon o1 h1]
  exact ⟨_, rfl, k _ s1⟩⟩
theorem te_notN {j pos'} (ha : Pk X cl a f) : Te X cl (.Compare a [.IsNot] [.Constant .none j pos'] pos) (eUn gNotN f) := ⟨fun W env d q σ H E V Q k => by
  obtain ⟨dx, e1, e2⟩ := bind1 q
  have hd : dx ≠ .hole ∧ d = !isNon dx := by
    unfold gNotN at e2
    split at e2
    · cases e2
    · rename_i hh
      cases e2
      exact ⟨fun z => hh z, rfl⟩
  obtain ⟨h1, rfl⟩ := hd
  refine wT.of (pt_cmpR op_notN pe_w pe_non (nomark _)) ?_
  refine ha.run W env dx e1 σ H E V _ fun v H1 F s1 o1 => ⟨rfl, ?_⟩
  rw [own_isNon o1 h1]
  exact ⟨_, rfl, k _ s1⟩⟩
theorem chain_inv {G G' : D → D → Option D} {env : Env} {d : D} (q : eChain G G' f g h env = some d) : ∃ x y, f env = some x ∧ g env = some y ∧ ((G x y = some (.bl true) ∧ ∃ z, h env = some z ∧ G' y z = some d) ∨ (G x y = some (.bl false) ∧ d = .bl false)) := by
  unfold eChain at q
  obtain ⟨x, y, e1, e2, q⟩ := bind2 q
  refine ⟨x, y, e1, e2, ?_⟩
  split at q
  · rename_i e3
    obtain ⟨z, e4, e5⟩ := bind1 q
    exact .inl ⟨e3, z, e4, e5⟩
  · rename_i e3
    cases q
    exact .inr ⟨e3, rfl⟩
  · cases q
/-- both comparisons by one rule each -/
structure GC (X : Cx) (cl : Cl) (f : Value → Value → Sem Value) (g : D → D → Option D) (r : R2) : Prop where
  rule : OpR X f r
  run : ∀ dx dy d, g dx dy = some d → ∀ W H x y Fx Fy, VD W H → Own X.K cl W H x dx Fx → Own X.K cl W H y dy Fy → ∀ Q : VK, Po X.K cl W H d Q → r x y H Q
theorem gc_I0 {F : Value → Value → Sem Value} {p : Int → Int → Bool} {G : D → D → Option D} (ho : OpR X F (rI0 fun i j => .bl (p i j))) (hG : ∀ dx dy d, G dx dy = some d → ∃ i j, dx = .int i ∧ dy = .int j ∧ d = .bl (p i j)) : GC X cl F G (rI0 fun i j => .bl (p i j)) := ⟨ho, fun dx dy d q W H x y Fx Fy V ox oy Q k => by
  obtain ⟨i, j, rfl, rfl, rfl⟩ := hG dx dy d q
  cases own_int ox
  cases own_int oy
  exact ⟨i, j, rfl, rfl, k.bl⟩⟩
theorem gc_lt : GC X cl (compareOp .Lt) gLt (rI0 fun i j => .bl (decide (i < j))) := gc_I0 op_lt fun dx dy d q => by
  unfold gLt at q
  split at q
  · cases q; exact ⟨_, _, rfl, rfl, rfl⟩
  · cases q
theorem gc_le : GC X cl (compareOp .LtE) gLe (rI0 fun i j => .bl (decide (i ≤ j))) := gc_I0 op_le fun dx dy d q => by
  unfold gLe at q
  split at q
  · cases q; exact ⟨_, _, rfl, rfl, rfl⟩
  · cases q
theorem chain_run {r r' : R2} {op op' : CmpOp} {G G' : D → D → Option D} (o : GC X cl (compareOp op) G r) (o' : GC X cl (compareOp op') G' r') (ha : Pk X cl a f) (hb : Pk X cl b g) (hc : Pk X cl c h)
    {W : List Addr} {env : Env} {d : D} (q : eChain G G' f g h env = some d) {σ : St} {H : Hp} (E : EV X.K cl W H σ env) (V : VD W H) {Q : VK} (k : Po X.K cl W H d Q) : tChain r r' (wE X a) (wE X b) (wE X c) σ H Q := by
  obtain ⟨x, y, e1, e2, q⟩ := chain_inv q
  refine ha.run W env x e1 σ H E V _ fun v H1 F s1 o1 => ?_
  refine hb.run W env y e2 σ H1 (E.mono s1) (V.mono s1) _ fun u H2 F2 s2 o2 => ?_
  have s := s1.trans s2
  rcases q with ⟨e3, z, e4, e5⟩ | ⟨e3, rfl⟩
  · refine o.run x y _ e3 W H2 v u F F2 (V.mono s) (o1.mono s2) o2 _ fun w' H3 F3 s3 o3 _ _ => ?_
    refine ⟨true, own_bl o3, ?_⟩
    rw [if_pos rfl]
    have s' := s.trans s3
    refine hc.run W env z e4 σ H3 (E.mono s') (V.mono s') _ fun t H4 F4 s4 o4 => ?_
    exact o'.run y z d e5 W H4 u t F2 F4 (V.mono (s'.trans s4)) ((o2.mono s3).mono s4) o4 Q fun r H5 F5 s5 o5 n5 f5 => k r H5 F5 ((s'.trans s4).trans s5) o5 n5 fun b hb => Same.back (s'.trans s4) (f5 b hb)
  · refine o.run x y _ e3 W H2 v u F F2 (V.mono s) (o1.mono s2) o2 _ fun w' H3 F3 s3 o3 _ _ => ?_
    refine ⟨false, own_bl o3, ?_⟩
    rw [if_neg Bool.false_ne_true]
    exact k _ H3 [] (s.trans s3) (.bl false) List.nodup_nil (fun _ z => nomatch z)
theorem se_chain {op op' : CmpOp} {G G' : D → D → Option D} {r r' : R2} (o : GC X cl (compareOp op) G r) (o' : GC X cl (compareOp op') G' r') (ha : Pk X cl a f) (hb : Pk X cl b g) (hc : Pk X cl c h)
    (hm : lastMarks [op, op'] [b, c] = false := by with_unfolding_all rfl) : Se X cl (.Compare a [op, op'] [b, c] pos) (eChain G G' f g h) := ⟨fun W env d q σ H E V Q k =>
  wE.of (pe_chain o.rule o'.rule pe_w pe_w pe_w hm) (chain_run o o' ha hb hc q E V k)⟩
theorem te_chain {op op' : CmpOp} {G G' : D → D → Option D} {r r' : R2} (o : GC X cl (compareOp op) G r) (o' : GC X cl (compareOp op') G' r') (ha : Pk X cl a f) (hb : Pk X cl b g) (hc : Pk X cl c h)
    (hm : lastMarks [op, op'] [b, c] = false := by with_unfolding_all rfl) : Te X cl (.Compare a [op, op'] [b, c] pos) (eChain G G' f g h) := ⟨fun W env d q σ H E V Q k =>
  wT.of (pt_chain o.rule o'.rule pe_w pe_w pe_w hm) (chain_run o o' ha hb hc q E V fun v H1 F s1 o1 _ _ => ⟨d, own_bl o1, k H1 s1⟩)⟩
/-! ### and, or, not, if else -/
theorem and_inv {env : Env} {d : D} (q : eAnd f g env = some d) : (f env = some (.bl true) ∧ g env = some d) ∨ (f env = some (.bl false) ∧ d = .bl false) := by
  unfold eAnd at q
  split at q
  · rename_i e; exact .inl ⟨e, q⟩
  · rename_i e; cases q; exact .inr ⟨e, rfl⟩
  · cases q
theorem or_inv {env : Env} {d : D} (q : eOr f g env = some d) : (f env = some (.bl false) ∧ g env = some d) ∨ (f env = some (.bl true) ∧ d = .bl true) := by
  unfold eOr at q
  split at q
  · rename_i e; exact .inl ⟨e, q⟩
  · rename_i e; cases q; exact .inr ⟨e, rfl⟩
  · cases q
theorem tw_one_and (h : Te X cl a f) : Tw X cl (.BoolOp .And [a] pos) f := ⟨fun W env d q σ H E V Q k => wW.of (pw_and1 pt_w) (h.run W env d q σ H E V Q k)⟩
theorem tw_one_or (h : Te X cl a f) : Tw X cl (.BoolOp .Or [a] pos) f := ⟨fun W env d q σ H E V Q k => wW.of (pw_or1 pt_w) (h.run W env d q σ H E V Q k)⟩
theorem tw_and (ha : Te X cl a f) (hb : Tw X cl (.BoolOp .And (b :: rest) pos) g) : Tw X cl (.BoolOp .And (a :: b :: rest) pos) (eAnd f g) := ⟨fun W env d q σ H E V Q k => by
  refine wW.of (pw_and pt_w pw_w) ?_
  rcases and_inv q with ⟨e1, e2⟩ | ⟨e1, e2⟩
  · refine ha.run W env true e1 σ H E V _ fun H1 s1 => ?_
    rw [if_pos rfl]
    exact hb.run W env d e2 σ H1 (E.mono s1) (V.mono s1) Q fun H2 s2 => k H2 (s1.trans s2)
  · cases e2
    refine ha.run W env false e1 σ H E V _ fun H1 s1 => ?_
    rw [if_neg Bool.false_ne_true]
    exact k H1 s1⟩
theorem tw_or (ha : Te X cl a f) (hb : Tw X cl (.BoolOp .Or (b :: rest) pos) g) : Tw X cl (.BoolOp .Or (a :: b :: rest) pos) (eOr f g) := ⟨fun W env d q σ H E V Q k => by
  refine wW.of (pw_or pt_w pw_w) ?_
  rcases or_inv q with ⟨e1, e2⟩ | ⟨e1, e2⟩
  · refine ha.run W env false e1 σ H E V _ fun H1 s1 => ?_
    rw [if_neg Bool.false_ne_true]
    exact hb.run W env d e2 σ H1 (E.mono s1) (V.mono s1) Q fun H2 s2 => k H2 (s1.trans s2)
  · cases e2
    refine ha.run W env true e1 σ H E V _ fun H1 s1 => ?_
    rw [if_pos rfl]
    exact k H1 s1⟩
theorem not_inv {env : Env} {d : D} (q : eUn gNot f env = some d) : ∃ k, f env = some (.bl k) ∧ d = .bl (!k) := by
  obtain ⟨x, e1, e2⟩ := bind1 q
  unfold gNot at e2
  split at e2
  · cases e2; exact ⟨_, e1, rfl⟩
  · cases e2
theorem te_not (ha : Te X cl a f) : Te X cl (.UnaryOp .Not a pos) (eUn gNot f) := ⟨fun W env d q σ H E V Q k => by
  obtain ⟨b', e1, e2⟩ := not_inv q
  cases e2
  exact wT.of (pt_not pt_w) (ha.run W env b' e1 σ H E V _ fun H1 s1 => k H1 s1)⟩
theorem se_one {op} (h : Se X cl a f) : Se X cl (.BoolOp op [a] pos) f := ⟨fun W env d q σ H E V Q k => wE.of (pe_one pe_w) (h.run W env d q σ H E V Q k)⟩
theorem se_and (ha : Pk X cl a f) (hb : Se X cl (.BoolOp .And (b :: rest) pos) g) : Se X cl (.BoolOp .And (a :: b :: rest) pos) (eAnd f g) := ⟨fun W env d q σ H E V Q k => by
  refine wE.of (pe_and pe_w pe_w) ?_
  rcases and_inv q with ⟨e1, e2⟩ | ⟨e1, rfl⟩
  · refine ha.run W env _ e1 σ H E V _ fun v H1 F s1 o1 => ⟨true, own_bl o1, ?_⟩
    rw [if_pos rfl]
    exact hb.run W env d e2 σ H1 (E.mono s1) (V.mono s1) Q fun u H2 G s2 o2 n2 f2 => k u H2 G (s1.trans s2) o2 n2 fun x hx => Same.back s1 (f2 x hx)
  · refine ha.run W env _ e1 σ H E V _ fun v H1 F s1 o1 => ⟨false, own_bl o1, ?_⟩
    rw [if_neg Bool.false_ne_true]
    exact k _ H1 [] s1 (.bl false) List.nodup_nil (fun _ z => nomatch z)⟩
theorem se_or (ha : Pk X cl a f) (hb : Se X cl (.BoolOp .Or (b :: rest) pos) g) : Se X cl (.BoolOp .Or (a :: b :: rest) pos) (eOr f g) := ⟨fun W env d q σ H E V Q k => by
  refine wE.of (pe_or pe_w pe_w) ?_
  rcases or_inv q with ⟨e1, e2⟩ | ⟨e1, rfl⟩
  · refine ha.run W env _ e1 σ H E V _ fun v H1 F s1 o1 => ⟨false, own_bl o1, ?_⟩
    rw [if_neg Bool.false_ne_true]
    exact hb.run W env d e2 σ H1 (E.mono s1) (V.mono s1) Q fun u H2 G s2 o2 n2 f2 => k u H2 G (s1.trans s2) o2 n2 fun x hx => Same.back s1 (f2 x hx)
  · refine ha.run W env _ e1 σ H E V _ fun v H1 F s1 o1 => ⟨true, own_bl o1, ?_⟩
    rw [if_pos rfl]
    exact k _ H1 [] s1 (.bl true) List.nodup_nil (fun _ z => nomatch z)⟩
theorem se_not (ha : Pk X cl a f) : Se X cl (.UnaryOp .Not a pos) (eUn gNot f) := ⟨fun W env d q σ H E V Q k => by
  obtain ⟨b', e1, rfl⟩ := not_inv q
  refine wE.of (pe_not pe_w) ?_
  refine ha.run W env _ e1 σ H E V _ fun v H1 F s1 o1 => ⟨b', own_bl o1, ?_⟩
  exact k _ H1 [] s1 (.bl _) List.nodup_nil (fun _ z => nomatch z)⟩
theorem se_neg (ha : Pk X cl a f) : Se X cl (.UnaryOp .USub a pos) (eUn gNeg f) := ⟨fun W env d q σ H E V Q k => by
  obtain ⟨x, e1, e2⟩ := bind1 q
  unfold gNeg at e2
  split at e2
  · cases e2
    refine wE.of (pe_un un_neg pe_w) ?_
    refine ha.run W env _ e1 σ H E V _ fun v H1 F s1 o1 => ⟨_, own_int o1, ?_⟩
    exact k _ H1 [] s1 (.int _) List.nodup_nil (fun _ z => nomatch z)
  · cases e2⟩
theorem se_ifx (hc : Te X cl c h) (ha : Se X cl a f) (hb : Se X cl b g) : Se X cl (.IfExp c a b pos) (eIf h f g) := ⟨fun W env d q σ H E V Q k => by
  refine wE.of (pe_ifExp pt_w pe_w pe_w) ?_
  unfold eIf at q
  split at q
  · rename_i e1
    refine hc.run W env true e1 σ H E V _ fun H1 s1 => ?_
    rw [if_pos rfl]
    exact ha.run W env d q σ H1 (E.mono s1) (V.mono s1) Q fun u H2 G s2 o2 n2 f2 => k u H2 G (s1.trans s2) o2 n2 fun x hx => Same.back s1 (f2 x hx)
  · rename_i e1
    refine hc.run W env false e1 σ H E V _ fun H1 s1 => ?_
    rw [if_neg Bool.false_ne_true]
    exact hb.run W env d q σ H1 (E.mono s1) (V.mono s1) Q fun u H2 G s2 o2 n2 f2 => k u H2 G (s1.trans s2) o2 n2 fun x hx => Same.back s1 (f2 x hx)
  · cases q⟩
/-! ### built-ins -/
theorem own1 {x : L2.V} {d : D} {K : PySem.W.Frag} {W : List Addr} {H : Hp} {vs : List L2.V} {F : List Addr} (h : Owns K cl W H vs [d] F) : ∃ v, vs = [v] ∧ Own K cl W H v d F := by
  cases h with
  | cons h hs =>
    cases hs
    rw [List.append_nil]
    exact ⟨_, rfl, h⟩
/-- a call of a built-in by one value -/
structure GF (X : Cx) (cl : Cl) (f : Value) (g : D → Option D) : Prop where
  run : ∀ dx d, g dx = some d → ∃ r : List L2.V → Hp → VK → Prop, CallR X f r ∧ ∀ W H x Fx, VD W H → Own X.K cl W H x dx Fx → ∀ Q : VK, Po X.K cl W H d Q → r [x] H Q
theorem se_fn {id : String} {x : Str} {p : Pos} {G : D → Option D} (o : GF X cl (.builtin id) G) (hg : Gl X x) (hm : X.mg x = none) (hv : bootBuiltins x = some (.builtin id)) (ha : Pk X cl a f) (hn : x ≠ "__name__" := by decide) (hdb : (x == ("__debug__" : Str)) = false := by decide)
    (h1 : starEach [a] X.env = (false, eval a X.env) :: starEach [] X.env := by rfl) (he : starEach (a :: []) X.env = (false, eval a X.env) :: starEach [] X.env := by rfl) (hpl : (backTo pos (starEach [] X.env)).any (·.1) = false := by rfl) :
    Se X cl (.Call (.Name x p) [a] [] pos) (eUn G f) := ⟨fun W env d q σ H E V Q k => by
  obtain ⟨dx, e1, e2⟩ := bind1 q
  obtain ⟨r, hr, run⟩ := o.run dx d e2
  refine wE.of (pe_callB hr hg hm hv (pa_cons pe_w pa_nil h1) hn hdb he hpl) ?_
  refine ha.run W env dx e1 σ H E V _ fun v H1 F s1 o1 => ?_
  exact run W H1 v F (V.mono s1) o1 Q fun z H3 F3 s3 o3 n3 f3 => k z H3 F3 (s1.trans s3) o3 n3 fun y hy => Same.back s1 (f3 y hy)⟩
theorem se_ty {T : String} {x : Str} {p : Pos} {G : D → Option D} (o : GF X cl (.type T) G) (hg : Gl X x) (hm : X.mg x = none) (hv : bootBuiltins x = some (.type T)) (ha : Pk X cl a f) (hn : x ≠ "__name__" := by decide) (hdb : (x == ("__debug__" : Str)) = false := by decide)
    (h1 : starEach [a] X.env = (false, eval a X.env) :: starEach [] X.env := by rfl) (he : starEach (a :: []) X.env = (false, eval a X.env) :: starEach [] X.env := by rfl) (hpl : (backTo pos (starEach [] X.env)).any (·.1) = false := by rfl) :
    Se X cl (.Call (.Name x p) [a] [] pos) (eUn G f) := ⟨fun W env d q σ H E V Q k => by
  obtain ⟨dx, e1, e2⟩ := bind1 q
  obtain ⟨r, hr, run⟩ := o.run dx d e2
  refine wE.of (pe_callTy hr hg hm hv (pa_cons pe_w pa_nil h1) hn hdb he hpl) ?_
  refine ha.run W env dx e1 σ H E V _ fun v H1 F s1 o1 => ?_
  exact run W H1 v F (V.mono s1) o1 Q fun z H3 F3 s3 o3 n3 f3 => k z H3 F3 (s1.trans s3) o3 n3 fun y hy => Same.back s1 (f3 y hy)⟩
theorem gf_len : GF X cl (.builtin "len") gLen := ⟨fun dx d q => by
  refine ⟨_, call_len, fun W H x Fx V o Q k => ?_⟩
  unfold gLen at q
  split at q
  · cases q
    obtain ⟨p, vs, rfl, hp, hs⟩ := own_tup o
    refine ⟨_, _, rfl, .inr ⟨vs, hp, rfl⟩, ?_⟩
    rw [hs.length]
    exact k.int
  · cases q
    obtain ⟨p, vs, G, rfl, hp, hs, _⟩ := own_lst o
    refine ⟨_, _, rfl, .inl ⟨vs, SqL.of hp, rfl⟩, ?_⟩
    rw [hs.length]
    exact k.int
  · split at q
    · cases q
      cases own_str o
      refine ⟨_, _, rfl, ⟨by rename_i hz; rw [line_eq] at hz; simpa [Str.length] using hz, rfl⟩, ?_⟩
      rename_i xs _
      have e : (⟨xs.toArray⟩ : Str).length = xs.length := by simp [Str.length]
      rw [e]
      exact k.int
    · cases q
  · cases q
    obtain ⟨p, rfl, hp⟩ := own_scr o
    refine ⟨_, _, rfl, .inl ⟨_, hp, rfl⟩, ?_⟩
    rw [List.length_map]
    exact k.int
  · cases q⟩
theorem gf_list : GF X cl (.type "list") gList := ⟨fun dx d q => by
  refine ⟨_, call_list_of, fun W H x Fx V o Q k => ?_⟩
  unfold gList at q
  split at q
  · split at q
    · rename_i hs'
      cases q
      obtain ⟨p, vs, rfl, hp, hs⟩ := own_tup o
      exact ⟨p, vs, rfl, .inr hp, fun l hl => Po.lst k (hs.shs hs') l hl⟩
    · cases q
  · split at q
    · rename_i hs'
      cases q
      obtain ⟨p, vs, G, rfl, hp, hs, _⟩ := own_lst o
      exact ⟨p, vs, rfl, .inl (SqL.of hp), fun l hl => Po.lst k (hs.shs hs') l hl⟩
    · cases q
  · cases q
    obtain ⟨p, rfl, hp⟩ := own_scr o
    exact ⟨p, _, rfl, .inl hp, fun l hl => Po.lst k own_ints l hl⟩
  · cases q⟩
theorem gf_tuple : GF X cl (.type "tuple") gTuple := ⟨fun dx d q => by
  refine ⟨_, call_tuple_of, fun W H x Fx V o Q k => ?_⟩
  unfold gTuple at q
  split at q
  · split at q
    · rename_i hs'
      cases q
      obtain ⟨p, vs, rfl, hp, hs⟩ := own_tupH o
      exact ⟨p, vs, rfl, .inr ⟨SqT.of hp, Po.tup0 k (hs.shs hs') hp⟩⟩
    · cases q
  · split at q
    · rename_i hs'
      cases q
      obtain ⟨p, vs, G, rfl, hp, hs, _⟩ := own_lst o
      exact ⟨p, vs, rfl, .inl ⟨SqL.of hp, fun l hl => Po.tup k (hs.shs hs') l hl⟩⟩
    · cases q
  · cases q⟩
theorem gf_int : GF X cl (.type "int") gInt := ⟨fun dx d q => by
  refine ⟨_, call_int1, fun W H x Fx V o Q k => ?_⟩
  unfold gInt at q
  split at q
  · cases q
    cases own_int o
    exact .inl ⟨_, rfl, k.int⟩
  · cases q
    cases own_bl o
    exact .inr ⟨_, rfl, k.int⟩
  · cases q⟩
end
end Tg

namespace Tg
open PySem PySem.Spec L2
/-! ### the frame's own things -/
inductive Sl (K : PySem.W.Frag) (cl : Cl) (W : List Addr) (H : Hp) : St → Env → List Addr → Prop
  | nil : Sl K cl W H [] [] []
  | skip (o : Option V) {σ : St} {env : Env} {F : List Addr} : Sl K cl W H σ env F → Sl K cl W H (o :: σ) (.hole :: env) F
  | cons {v : V} {d : D} {σ : St} {env : Env} {G F : List Addr} : Own K cl W H v d G → Sl K cl W H σ env F → Sl K cl W H (some v :: σ) (d :: env) (G ++ F)
/-- a slot's content -/
def At (K : PySem.W.Frag) (cl : Cl) (W : List Addr) (H : Hp) (o : Option V) (d : D) (G : List Addr) : Prop := (d = .hole ∧ G = []) ∨ ∃ v, o = some v ∧ Own K cl W H v d G
section
variable {K : PySem.W.Frag} {cl : Cl} {W W' : List Addr} {H H' : Hp} {σ : St} {env : Env} {F : List Addr}
theorem At.keep {o : Option V} {d : D} {G : List Addr} (h : At K cl W H o d G) (k : Keep W W' G H H') : At K cl W' H' o d G := by
  rcases h with h | ⟨v, e, h⟩
  · exact .inl h
  · exact .inr ⟨v, e, h.keep k⟩
theorem At.sl {o : Option V} {d : D} {G : List Addr} (h : At K cl W H o d G) (r : Sl K cl W H σ env F) : Sl K cl W H (o :: σ) (d :: env) (G ++ F) := by
  rcases h with ⟨rfl, rfl⟩ | ⟨v, rfl, h⟩
  · exact .skip o r
  · exact .cons h r
theorem Sl.keep : ∀ {σ : St} {env : Env} {F : List Addr}, Sl K cl W H σ env F → Keep W W' F H H' → Sl K cl W' H' σ env F
  | _, _, _, .nil, _ => .nil
  | _, _, _, .skip o r, k => .skip o (Sl.keep r k)
  | _, _, _, .cons h r, k => .cons (h.keep k.app1) (Sl.keep r k.app2)
theorem Sl.len : ∀ {σ : St} {env : Env} {F : List Addr}, Sl K cl W H σ env F → σ.length = env.length
  | _, _, _, .nil => rfl
  | _, _, _, .skip o r => by rw [List.length_cons, List.length_cons, r.len]
  | _, _, _, .cons h r => by rw [List.length_cons, List.length_cons, r.len]
theorem Sl.zoom : ∀ {σ : St} {env : Env} {F : List Addr} {i : Nat} {d : D}, Sl K cl W H σ env F → env[i]? = some d → ∃ o G F1 F2, σ[i]? = some o ∧ F = F1 ++ (G ++ F2) ∧ At K cl W H o d G ∧
    ∀ (W' : List Addr) (H' : Hp) (o' : Option V) (d' : D) (G' : List Addr), Keep W W' (F1 ++ F2) H H' → At K cl W' H' o' d' G' → Sl K cl W' H' (σ.set i o') (env.set i d') (F1 ++ (G' ++ F2))
  | _, _, _, _, _, .nil, e => by simp at e
  | _, _, F, 0, d, .skip o r, e => by
    simp at e
    subst e
    exact ⟨o, [], [], F, rfl, rfl, .inl ⟨rfl, rfl⟩, fun W' H' o' d' G' k a => a.sl (r.keep k)⟩
  | _, _, _, 0, d, .cons (v := v) (G := G) (F := F) h r, e => by
    simp at e
    subst e
    exact ⟨some v, G, [], F, rfl, rfl, .inr ⟨v, rfl, h⟩, fun W' H' o' d' G' k a => a.sl (r.keep k)⟩
  | _, _, _, i + 1, d, .skip o r, e => by
    obtain ⟨o1, G, F1, F2, h1, h2, h3, h4⟩ := Sl.zoom (i := i) (d := d) r (by simpa using e)
    exact ⟨o1, G, F1, F2, by simpa using h1, h2, h3, fun W' H' o' d' G' k a => .skip o (h4 W' H' o' d' G' k a)⟩
  | _, _, _, i + 1, d, .cons (G := G0) h r, e => by
    obtain ⟨o1, G, F1, F2, h1, h2, h3, h4⟩ := Sl.zoom (i := i) (d := d) r (by simpa using e)
    refine ⟨o1, G, G0 ++ F1, F2, by simpa using h1, by rw [h2, List.append_assoc], h3, fun W' H' o' d' G' k a => ?_⟩
    rw [List.append_assoc]
    rw [List.append_assoc] at k
    exact .cons (h.keep k.app1) (h4 W' H' o' d' G' k.app2 a)
theorem Sl.tracked : ∀ {σ : St} {env : Env} {F : List Addr}, Sl K cl W H σ env F → ∀ a ∈ F, H a ≠ none
  | _, _, _, .nil, _, h => nomatch h
  | _, _, _, .skip o r, a, h => r.tracked a h
  | _, _, _, .cons h r, a, ha => (List.mem_append.mp ha).elim (h.tracked a) (r.tracked a)
theorem Sl.ev (r : Sl K cl W H σ env F) (t : TabsOk cl H) : EV K cl W H σ env := ⟨r.len, fun i d e hd => by
  obtain ⟨o, G, F1, F2, h1, h2, h3, _⟩ := r.zoom e
  rcases h3 with ⟨h3, _⟩ | ⟨v, rfl, h3⟩
  · exact absurd h3 hd
  · exact ⟨v, G, h1, h3⟩, t⟩
end
/-- the frame's state: R what others have -/
structure ER (K : PySem.W.Frag) (cl : Cl) (R F : List Addr) (σ : St) (H : Hp) (env : Env) : Prop where
  sl : Sl K cl (R ++ F) H σ env F
  nd : F.Nodup
  ap : ∀ a ∈ F, a ∉ R
  vd : VD R H
  tabs : TabsOk cl H
/-- what a run may change -/
structure Fr (F : List Addr) (H : Hp) (F' : List Addr) (H' : Hp) : Prop where
  keep : ∀ a o, H a = some o → a ∉ F → ∀ [NT o], H' a = some o
  tup : ∀ a vs, H a = some (.tup vs) → H' a = some (.tup vs)
  frz : ∀ a o u, H a = some (.frz o u) → H' a = some (.frz o u)
  back : ∀ a, H' a = none → H a = none
  new : ∀ a ∈ F', a ∈ F ∨ H a = none
  tabs : ∀ P q, TabS H P q → TabS H' P q
section
variable {K : PySem.W.Frag} {cl : Cl} {R F F' F'' : List Addr} {H H' H'' : Hp} {σ : St} {env : Env}
theorem Fr.refl : Fr F H F H := ⟨fun _ _ h _ => h, fun _ _ h => h, fun _ _ _ h => h, fun _ h => h, fun _ h => .inl h, fun _ _ h => h⟩
theorem Fr.trans (a : Fr F H F' H') (b : Fr F' H' F'' H'') : Fr F H F'' H'' where
  keep := fun x o h n => b.keep x o (a.keep x o h n) fun z => (a.new x z).elim n fun q => by rw [h] at q; cases q
  tup := fun x vs h => b.tup x vs (a.tup x vs h)
  frz := fun x o u h => b.frz x o u (a.frz x o u h)
  back := fun x h => a.back x (b.back x h)
  new := fun x h => (b.new x h).elim (a.new x) fun q => .inr (a.back x q)
  tabs := fun P q h => b.tabs P q (a.tabs P q h)
theorem Fr.same (s : Same H H') (n : ∀ a ∈ F', a ∈ F ∨ H a = none) : Fr F H F' H' := ⟨fun a o h _ => s a o h, fun a vs h => s _ _ h, fun a o u h => s _ _ h, fun a h => Same.back s h, n, s.tabs⟩
/-- nothing of what was there may have changed -/
theorem Fr.same0 {G : List Addr} (a : Fr [] H G H') : Same H H' := ⟨fun x o h => a.keep x o h (by simp), fun {x} h => a.back x h, a.tabs⟩
theorem ER.ev (e : ER K cl R F σ H env) : EV K cl (R ++ F) H σ env := e.sl.ev e.tabs
theorem ER.vd' (e : ER K cl R F σ H env) : VD (R ++ F) H := fun a ha => (List.mem_append.mp ha).elim (e.vd a) (e.sl.tracked a)
theorem ER.mono (e : ER K cl R F σ H env) (s : Same H H') : ER K cl R F σ H' env := ⟨e.sl.keep (Keep.same s), e.nd, e.ap, e.vd.mono s, e.tabs.mono s⟩
/-- a slot is given a new value -/
theorem ER.set (e : ER K cl R F σ H env) {i : Nat} (hi : i < env.length) {v : V} {d : D} {G : List Addr} (s : Same H H') (o : Own K cl (G ++ (R ++ F)) H' v d G) (n : G.Nodup) (f : ∀ a ∈ G, H a = none) :
    ∃ F', ER K cl R F' (σ.set i (some v)) H' (env.set i d) ∧ Fr F H F' H' := by
  obtain ⟨d0, hd0⟩ : ∃ d0, env[i]? = some d0 := ⟨_, List.getElem?_eq_getElem hi⟩
  obtain ⟨o1, G1, F1, F2, h1, h2, h3, h4⟩ := e.sl.zoom hd0
  have e' := e.mono s
  have gF : ∀ a ∈ G, a ∉ R ++ F := fun a ha z => e.vd' a z (f a ha)
  refine ⟨F1 ++ (G ++ F2), ⟨h4 _ H' (some v) d G ⟨fun a _ o q => s _ _ q, fun a o _ q => s _ _ q, fun a vs q => s _ _ q, fun a o u q => s _ _ q, fun a ha hn z => ?_⟩ (.inr ⟨v, rfl, o.keep ⟨fun a _ o q => q, fun a o _ q => q, fun a vs q => q, fun a o u q => q, fun a ha hn z => ?_⟩⟩), ?_, ?_, e'.vd, e'.tabs⟩, Fr.same s ?_⟩
  · rw [h2] at ha
    simp only [List.mem_append, not_or] at ha z
    rcases z with z | z | z | z
    · exact ha.1 z
    · exact ha.2.1 z
    · exact hn (f a z)
    · exact ha.2.2.2 z
  · rw [h2] at ha
    simp only [List.mem_append, not_or] at ha z
    rcases z with z | z | z | z
    · exact ha.2.1 z
    · exact ha.2.2.1 z
    · exact ha.1 z
    · exact ha.2.2.2.2 z
  · have nd := e.nd
    rw [h2] at nd
    rw [List.nodup_append] at nd ⊢
    obtain ⟨n1, n2, n3⟩ := nd
    rw [List.nodup_append] at n2
    obtain ⟨n4, n5, n6⟩ := n2
    refine ⟨n1, List.nodup_append.mpr ⟨n, n5, fun a ha b hb q => gF a ha ?_⟩, fun a ha b hb q => ?_⟩
    · rw [q, h2]; simp [hb]
    · rcases List.mem_append.mp hb with hb | hb
      · exact gF b hb (by rw [← q, h2]; simp [ha])
      · exact n3 a ha b (List.mem_append_right _ hb) q
  · intro a ha
    simp only [List.mem_append] at ha
    rcases ha with ha | ha | ha
    · exact e.ap a (by rw [h2]; simp [ha])
    · exact fun z => gF a ha (by simp [z])
    · exact e.ap a (by rw [h2]; simp [ha])
  · intro a ha
    simp only [List.mem_append] at ha
    rcases ha with ha | ha | ha
    · exact .inl (by rw [h2]; simp [ha])
    · exact .inr (f a ha)
    · exact .inl (by rw [h2]; simp [ha])
end
end Tg

namespace Tg
open PySem PySem.Spec L2
def Pin (io : List Nat) (σ σ' : St) : Prop := ∀ i ∈ io, σ'[i]? = σ[i]?
theorem Pin.refl {io : List Nat} {σ : St} : Pin io σ σ := fun _ _ => rfl
theorem Pin.trans {io : List Nat} {σ σ1 σ2 : St} (a : Pin io σ σ1) (b : Pin io σ1 σ2) : Pin io σ σ2 := fun i h => (b i h).trans (a i h)
theorem Pin.set {io : List Nat} {σ : St} {i : Nat} {o : Option V} (h : i ∉ io) : Pin io σ (σ.set i o) := fun j hj => List.getElem?_set_ne fun e => h (by rw [e]; exact hj)
/-- a value, apart from the frame's own things -/
structure EP (K : PySem.W.Frag) (cl : Cl) (R G F : List Addr) (σ : St) (H : Hp) (env : Env) : Prop where
  sl : Sl K cl (G ++ (R ++ F)) H σ env F
  nd : F.Nodup
  ap : ∀ a ∈ F, a ∉ R
  vd : VD R H
  gn : G.Nodup
  gr : ∀ a ∈ G, a ∉ R ∧ a ∉ F
  gt : ∀ a ∈ G, H a ≠ none
  tabs : TabsOk cl H
section
variable {K : PySem.W.Frag} {cl : Cl} {R G F F' : List Addr} {H H' : Hp} {σ : St} {env : Env}
theorem ER.ep (e : ER K cl R F σ H env) (s : Same H H') (n : G.Nodup) (f : ∀ a ∈ G, H a = none) (t : ∀ a ∈ G, H' a ≠ none) : EP K cl R G F σ H' env := by
  refine ⟨?_, e.nd, e.ap, e.vd.mono s, n, fun a ha => ⟨fun z => e.vd a z (f a ha), fun z => e.sl.tracked a z (f a ha)⟩, t, e.tabs.mono s⟩
  refine (e.sl.keep (Keep.re (K := K) (W' := G ++ (R ++ F)) fun a ha hn z => ?_)).keep (Keep.same s)
  exact (List.mem_append.mp z).elim (fun z => hn (f a z)) ha
theorem EP.er (e : EP K cl R G F σ H env) : ER K cl R F σ H env := ⟨e.sl.keep (Keep.re (K := K) fun a ha _ z => ha (List.mem_append_right _ z)), e.nd, e.ap, e.vd, e.tabs⟩
theorem EP.put (e : EP K cl R G F σ H env) {i : Nat} (hi : i < env.length) {v : V} {d : D} (o : Own K cl (G ++ (R ++ F)) H v d G) :
    ∃ F', ER K cl R F' (σ.set i (some v)) H (env.set i d) ∧ ∀ a ∈ F', a ∈ F ∨ a ∈ G := by
  obtain ⟨d0, hd0⟩ : ∃ d0, env[i]? = some d0 := ⟨_, List.getElem?_eq_getElem hi⟩
  obtain ⟨o1, G1, F1, F2, h1, h2, h3, h4⟩ := e.sl.zoom hd0
  have sub : ∀ a, a ∉ G ++ (R ++ F) → H a ≠ none → a ∉ R ++ (F1 ++ (G ++ F2)) := fun a ha _ z => by
    rw [h2] at ha
    simp only [List.mem_append, not_or] at ha z
    rcases z with z | z | z | z
    · exact ha.2.1 z
    · exact ha.2.2.1 z
    · exact ha.1 z
    · exact ha.2.2.2.2 z
  refine ⟨F1 ++ (G ++ F2), ⟨h4 _ H (some v) d G (Keep.re (K := K) sub) (.inr ⟨v, rfl, o.keep (Keep.re (K := K) sub)⟩), ?_, ?_, e.vd, e.tabs⟩, ?_⟩
  · have nd := e.nd
    rw [h2] at nd
    rw [List.nodup_append] at nd ⊢
    obtain ⟨n1, n2, n3⟩ := nd
    rw [List.nodup_append] at n2
    obtain ⟨n4, n5, n6⟩ := n2
    refine ⟨n1, List.nodup_append.mpr ⟨e.gn, n5, fun a ha b hb q => (e.gr a ha).2 ?_⟩, fun a ha b hb q => ?_⟩
    · rw [q, h2]; simp [hb]
    · rcases List.mem_append.mp hb with hb | hb
      · exact (e.gr b hb).2 (by rw [← q, h2]; simp [ha])
      · exact n3 a ha b (List.mem_append_right _ hb) q
  · intro a ha
    simp only [List.mem_append] at ha
    rcases ha with ha | ha | ha
    · exact e.ap a (by rw [h2]; simp [ha])
    · exact (e.gr a ha).1
    · exact e.ap a (by rw [h2]; simp [ha])
  · intro a ha
    simp only [List.mem_append] at ha
    rcases ha with ha | ha | ha
    · exact .inl (by rw [h2]; simp [ha])
    · exact .inr ha
    · exact .inl (by rw [h2]; simp [ha])
end
/-! ### what is to be shown of a statement -/
def Pst (K : PySem.W.Frag) (cl : Cl) (io : List Nat) (R F : List Addr) (H : Hp) (σ : St) (fl : Fl) (D : Ends) : Prop := match fl with
  | .nx e' => ∀ σ' H' F', ER K cl R F' σ' H' e' → Fr F H F' H' → Pin io σ σ' → D.nx σ' H'
  | .bk e' => ∀ σ' H' F', ER K cl R F' σ' H' e' → Fr F H F' H' → Pin io σ σ' → D.bk σ' H'
  | .ct e' => ∀ σ' H' F', ER K cl R F' σ' H' e' → Fr F H F' H' → Pin io σ σ' → D.ct σ' H'
  | .rt d e' => ∀ v σ' H' F' G, EP K cl R G F' σ' H' e' → Own K cl (G ++ (R ++ F')) H' v d G → Fr F H (G ++ F') H' → Pin io σ σ' → D.rt v H'
def wS (X : Cx) (st : Stmt) : TS := fun D σ H => ∀ (pins : List (Addr × Obj)) (s : Shared), Inv X pins σ H s → wpAny (model X.prog X.w) X.A (exec st X.env) (L2.SP X pins D) X.xe s
theorem ps_w {X : Cx} {st : Stmt} : PS X st (wS X st) := ⟨fun pins s σ H D I h => h pins s I⟩
theorem wS.of {X : Cx} {st : Stmt} {t : TS} (h : PS X st t) {σ : St} {H : Hp} {D : Ends} (q : t D σ H) : wS X st D σ H := fun pins s I => h.run pins s σ H D I q
def wB (X : Cx) (st : List Stmt) : TS := fun D σ H => ∀ (pins : List (Addr × Obj)) (s : Shared), Inv X pins σ H s → wpAny (model X.prog X.w) X.A (execs st X.env) (L2.SP X pins D) X.xe s
theorem pb_w {X : Cx} {st : List Stmt} : PSs X st (wB X st) := ⟨fun pins s σ H D I h => h pins s I⟩
theorem wB.of {X : Cx} {st : List Stmt} {t : TS} (h : PSs X st t) {σ : St} {H : Hp} {D : Ends} (q : t D σ H) : wB X st D σ H := fun pins s I => h.run pins s σ H D I q
structure Sm (X : Cx) (cl : Cl) (io : List Nat) (st : Stmt) (f : SS) : Prop where
  run : ∀ (R F : List Addr) (env : Env) (fl : Fl), f env = some fl → ∀ (σ : St) (H : Hp), ER X.K cl R F σ H env → ∀ D : Ends, Pst X.K cl io R F H σ fl D → wS X st D σ H
structure Sb (X : Cx) (cl : Cl) (io : List Nat) (st : List Stmt) (f : SS) : Prop where
  run : ∀ (R F : List Addr) (env : Env) (fl : Fl), f env = some fl → ∀ (σ : St) (H : Hp), ER X.K cl R F σ H env → ∀ D : Ends, Pst X.K cl io R F H σ fl D → wB X st D σ H
section
variable {X : Cx} {cl : Cl} {io : List Nat} {a b c e : Expr} {f g h : EE} {pos : Pos} {st : Stmt} {sts : List Stmt} {s t : SS}
theorem Fr.mono {F F' G : List Addr} {H H' : Hp} (a : Fr F H F' H') (h : ∀ x ∈ G, x ∈ F' ∨ H x = none) : Fr F H G H' := ⟨fun x o h => a.keep x o h, a.tup, a.frz, a.back, fun x hx => (h x hx).elim (a.new x) .inr, a.tabs⟩
theorem Fr.trans2 {F F1 F2 : List Addr} {H H1 H2 : Hp} (a : Fr F H F1 H1) (b : Fr F1 H1 F2 H2) : Fr F H F2 H2 := a.trans b
theorem Pst.step {K : PySem.W.Frag} {R F F1 : List Addr} {H H1 : Hp} {σ σ1 : St} {fl : Fl} {D : Ends} (k : Pst K cl io R F H σ fl D) (a : Fr F H F1 H1) (p : Pin io σ σ1) : Pst K cl io R F1 H1 σ1 fl D := by
  cases fl with
  | nx e' => exact fun σ' H' F' er fr pn => k σ' H' F' er (a.trans fr) (p.trans pn)
  | bk e' => exact fun σ' H' F' er fr pn => k σ' H' F' er (a.trans fr) (p.trans pn)
  | ct e' => exact fun σ' H' F' er fr pn => k σ' H' F' er (a.trans fr) (p.trans pn)
  | rt d e' => exact fun v σ' H' F' G ep o fr pn => k v σ' H' F' G ep o (a.trans fr) (p.trans pn)
theorem sb_nil : Sb X cl io [] sNil := ⟨fun R F env fl q σ H E D k => by
  cases q
  exact wB.of pss_nil (k σ H F E Fr.refl Pin.refl)⟩
theorem sb_cons (h1 : Sm X cl io st s) (h2 : Sb X cl io sts t) : Sb X cl io (st :: sts) (sSeq s t) := ⟨fun R F env fl q σ H E D k => by
  refine wB.of (pss_cons ps_w pb_w) ?_
  unfold sSeq at q
  cases e1 : s env with
  | none => rw [e1] at q; cases q
  | some fl1 =>
    rw [e1] at q
    cases fl1 with
    | nx e' => exact h1.run R F env _ e1 σ H E _ fun σ' H' F' er fr pn => h2.run R F' e' fl q σ' H' er D (k.step fr pn)
    | bk e' => cases q; exact h1.run R F env _ e1 σ H E _ k
    | ct e' => cases q; exact h1.run R F env _ e1 σ H E _ k
    | rt d e' => cases q; exact h1.run R F env _ e1 σ H E _ k⟩
theorem sm_pass : Sm X cl io (.Pass pos) sPass := ⟨fun R F env fl q σ H E D k => by
  cases q
  exact wS.of ps_pass (k σ H F E Fr.refl Pin.refl)⟩
theorem sm_brk : Sm X cl io (.Break pos) sBrk := ⟨fun R F env fl q σ H E D k => by
  cases q
  exact wS.of ps_break (k σ H F E Fr.refl Pin.refl)⟩
theorem sm_cnt : Sm X cl io (.Continue pos) sCnt := ⟨fun R F env fl q σ H E D k => by
  cases q
  exact wS.of ps_continue (k σ H F E Fr.refl Pin.refl)⟩
theorem sm_never : Sm X cl io st sNever := ⟨fun R F env fl q => nomatch q⟩
theorem sb_never : Sb X cl io sts sNever := ⟨fun R F env fl q => nomatch q⟩
theorem sm_doc {x j} {pos'} : Sm X cl io (.Expr (.Constant (.str x) j pos) pos') sPass := ⟨fun R F env fl q σ H E D k => by
  cases q
  exact wS.of ps_doc (k σ H F E Fr.refl Pin.refl)⟩
theorem sm_drop (h : Pk X cl e f) (hs : swapsWith e none pos.line X.env = pure false := by rfl) : Sm X cl io (.Expr e pos) (sDrop f) := ⟨fun R F env fl q σ H E D k => by
  unfold sDrop at q
  cases e1 : f env with
  | none => rw [e1] at q; cases q
  | some d =>
    rw [e1] at q
    cases q
    refine wS.of (ps_expr pe_w hs) ?_
    exact h.run _ env d e1 σ H E.ev E.vd' _ fun v H' _ s1 _ => k σ H' F (E.mono s1) (Fr.same s1 fun a ha => .inl ha) Pin.refl⟩
theorem sm_ret (h : Se X cl e f) : Sm X cl io (.Return (some e) pos) (sRet f) := ⟨fun R F env fl q σ H E D k => by
  unfold sRet at q
  cases e1 : f env with
  | none => rw [e1] at q; cases q
  | some d =>
    rw [e1] at q
    cases q
    refine wS.of (ps_ret pe_w) ?_
    refine h.run _ env d e1 σ H E.ev E.vd' _ fun v H' G s1 o1 n1 f1 => ?_
    exact k v σ H' F G (E.ep s1 n1 f1 o1.tracked) o1 (Fr.same s1 fun a ha => (List.mem_append.mp ha).elim (fun z => .inr (f1 a z)) .inl) Pin.refl⟩
theorem sm_retN : Sm X cl io (.Return none pos) sRetN := ⟨fun R F env fl q σ H E D k => by
  cases q
  refine wS.of ps_retN ?_
  exact k .non σ H F [] (E.ep (Same.refl H) List.nodup_nil (fun _ z => nomatch z) (fun _ z => nomatch z)) .non Fr.refl Pin.refl⟩
theorem sm_if {A B : List Stmt} (hc : Te X cl c h) (ha : Sb X cl io A s) (hb : Sb X cl io B t) : Sm X cl io (.If c A B pos) (sIf h s t) := ⟨fun R F env fl q σ H E D k => by
  refine wS.of (ps_if pt_w pb_w pb_w) ?_
  unfold sIf at q
  split at q
  · rename_i e1
    refine hc.run _ env true e1 σ H E.ev E.vd' _ fun H1 s1 => ?_
    rw [if_pos rfl]
    exact ha.run R F env fl q σ H1 (E.mono s1) D (k.step (Fr.same s1 fun a ha => .inl ha) Pin.refl)
  · rename_i e1
    refine hc.run _ env false e1 σ H E.ev E.vd' _ fun H1 s1 => ?_
    rw [if_neg Bool.false_ne_true]
    exact hb.run R F env fl q σ H1 (E.mono s1) D (k.step (Fr.same s1 fun a ha => .inl ha) Pin.refl)
  · cases q⟩
theorem set_self {α : Type} : ∀ {l : List α} {i : Nat} {o : α}, l[i]? = some o → l.set i o = l
  | [], _, _, h => by simp at h
  | x :: l, 0, o, h => by
    simp at h
    rw [h]
    rfl
  | x :: l, i + 1, o, h => by
    show x :: l.set i o = x :: l
    rw [set_self (by simpa using h)]
/-- a slot frozen, ahead of a statement -/
def sFz (i : Nat) (s : SS) : SS := fun env => match env[i]? with
  | some d => s (env.set i d.fz)
  | none => none
theorem ER.fz {K : PySem.W.Frag} {R F : List Addr} {H : Hp} {σ : St} {env : Env} {i : Nat} {d : D} (E : ER K cl R F σ H env) (hd : env[i]? = some d) : ∃ F', ER K cl R F' σ H (env.set i d.fz) ∧ ∀ a ∈ F', a ∈ F := by
  obtain ⟨o1, G1, F1, F2, h1, h2, h3, h4⟩ := E.sl.zoom hd
  have nd := E.nd
  rw [h2] at nd
  have nd' := nd
  rw [List.nodup_append] at nd
  obtain ⟨n1, n2, n3⟩ := nd
  rw [List.nodup_append] at n2
  obtain ⟨n4, n5, n6⟩ := n2
  have sub : ∀ a, H a ≠ none → a ∉ R ++ F → a ∉ R ++ (F1 ++ F2) := fun a _ ha z => by
    rw [h2] at ha
    simp only [List.mem_append, not_or] at ha z
    rcases z with z | z | z
    · exact ha.1 z
    · exact ha.2.1 z
    · exact ha.2.2.2 z
  have gsub : ∀ a ∈ G1, a ∉ R ++ (F1 ++ F2) := fun a ha z => by
    simp only [List.mem_append] at z
    rcases z with z | z | z
    · exact E.ap a (by rw [h2]; simp [ha]) z
    · exact n3 a z a (List.mem_append_left _ ha) rfl
    · exact n6 a ha a z rfl
  have at' : At K cl (R ++ (F1 ++ F2)) H o1 d.fz [] := by
    rcases h3 with ⟨rfl, _⟩ | ⟨v, rfl, o⟩
    · exact .inl ⟨rfl, rfl⟩
    · exact .inr ⟨v, rfl, o.fz _ sub gsub⟩
  have r := h4 (R ++ (F1 ++ F2)) H o1 d.fz [] (Keep.re (K := K) fun a ha hn => sub a hn ha) at'
  rw [set_self h1] at r
  refine ⟨F1 ++ F2, ⟨r, List.nodup_append.mpr ⟨n1, n5, fun a ha b hb => n3 a ha b (List.mem_append_right _ hb)⟩, fun a ha => E.ap a ?_, E.vd, E.tabs⟩, fun a ha => ?_⟩
  · rw [h2]; simp only [List.mem_append] at ha ⊢; rcases ha with z | z <;> simp [z]
  · rw [h2]; simp only [List.mem_append] at ha ⊢; rcases ha with z | z <;> simp [z]
theorem sm_fz {i : Nat} (h1 : Sm X cl io st s) : Sm X cl io st (sFz i s) := ⟨fun R F env fl q σ H E D k => by
  unfold sFz at q
  split at q
  · rename_i d hd
    obtain ⟨F', E', sub⟩ := E.fz hd
    exact h1.run R F' _ fl q σ H E' D (k.step (Fr.same (Same.refl H) fun a ha => .inl (sub a ha)) Pin.refl)
  · cases q⟩
theorem tgs_len : ∀ {ts : List TgT} {ds : List D} {env env' : Env}, tgs ts ds env = some env' → ds.length = ts.length
  | [], [], _, _, _ => rfl
  | _ :: _, [], _, _, h => nomatch h
  | [], _ :: _, _, _, h => nomatch h
  | t :: ts, d :: ds, env, env', h => by
    have q' : (t d env).bind (tgs ts ds) = some env' := h
    obtain ⟨env1, e1, e2⟩ := bind1 q'
    rw [List.length_cons, List.length_cons, tgs_len e2]
/-! ### targets -/
def wG (X : Cx) (tg : Expr) : TG := fun v σ H Q => ∀ (pins : List (Addr × Obj)) (s : Shared) (u : Value), Inv X pins σ H s → RelV v u → wpAny (model X.prog X.w) X.A (assign tg X.env u) (fun _ s' => ∃ σ' H', Inv X pins σ' H' s' ∧ Q σ' H') X.xe s
theorem pg_w {tg : Expr} : PG X tg (wG X tg) := ⟨fun pins s σ H v u Q I r h => h pins s u I r⟩
theorem wG.of {tg : Expr} {t : TG} (h : PG X tg t) {v : V} {σ : St} {H : Hp} {Q : St → Hp → Prop} (q : t v σ H Q) : wG X tg v σ H Q := fun pins s u I r => h.run pins s σ H v u Q I r q
structure Tt (X : Cx) (cl : Cl) (io : List Nat) (tg : Expr) (t : TgT) : Prop where
  run : ∀ (R G F : List Addr) (env env' : Env) (d : D), t d env = some env' → ∀ (σ : St) (H : Hp) (v : V), EP X.K cl R G F σ H env → Own X.K cl (G ++ (R ++ F)) H v d G → ∀ Q : St → Hp → Prop,
    (∀ σ' F', ER X.K cl R F' σ' H env' → (∀ a ∈ F', a ∈ F ∨ a ∈ G) → Pin io σ σ' → Q σ' H) → wG X tg v σ H Q
theorem tt_name (i : Nat) {x : Str} (nd : X.N.Nodup) (hi : X.N[i]? = some x := by rfl) (hx : Loc X.env.scope x := by first | exact Or.inl rfl | exact Or.inr rfl) (hf : X.fn x = true ∨ X.env.scope.names.lookup x = some .local := by first | exact .inl rfl | exact .inr rfl | assumption) (hio : i ∉ io := by decide) : Tt X cl io (.Name x pos) (tgN i) := ⟨fun R G F env env' d q σ H v E o Q k => by
  unfold tgN at q
  split at q
  · rename_i hl
    cases q
    refine wG.of (pg_name nd hi hx hf) ?_
    obtain ⟨F', E', sub⟩ := E.put hl o
    exact k _ F' E' sub (Pin.set hio)
  · cases q⟩
structure Tts (X : Cx) (cl : Cl) (io : List Nat) (tgs' : List Expr) (ts : List TgT) : Prop where
  run : ∀ (R G F : List Addr) (env env' : Env) (ds : List D), tgs ts ds env = some env' → ∀ (σ : St) (H : Hp) (vs : List V), EP X.K cl R G F σ H env → Owns X.K cl (G ++ (R ++ F)) H vs ds G → ∀ Q : St → Hp → Prop,
    (∀ σ' F', ER X.K cl R F' σ' H env' → (∀ a ∈ F', a ∈ F ∨ a ∈ G) → Pin io σ σ' → Q σ' H) → ∃ t, PGs X tgs' t ∧ t vs σ H Q
def wGs (X : Cx) (ts : List Expr) : TGs := fun vs σ H Q => ∀ (pins : List (Addr × Obj)) (s : Shared) (us : List Value), Inv X pins σ H s → Vals vs us → wpAny (model X.prog X.w) X.A (assignInOrder ((assignEach ts X.env).map (·.2)) us) (fun _ s' => ∃ σ' H', Inv X pins σ' H' s' ∧ Q σ' H') X.xe s
theorem pgs_w {ts : List Expr} : PGs X ts (wGs X ts) := ⟨fun pins s σ H vs us Q I r h => h pins s us I r⟩
theorem wGs.of {ts : List Expr} {t : TGs} (h : PGs X ts t) {vs : List V} {σ : St} {H : Hp} {Q : St → Hp → Prop} (q : t vs σ H Q) : wGs X ts vs σ H Q := fun pins s us I r => h.run pins s σ H vs us Q I r q
theorem tts_nil : Tts X cl io [] [] := ⟨fun R G F env env' ds q σ H vs E o Q k => by
  cases ds with
  | nil =>
    cases q
    cases o
    exact ⟨_, pgs_nil, rfl, k σ F E.er (fun a ha => .inl ha) Pin.refl⟩
  | cons _ _ => cases q⟩
theorem tts_cons {tg : Expr} {es : List Expr} {t0 : TgT} {ts : List TgT} (h1 : Tt X cl io tg t0) (h2 : Tts X cl io es ts) (hs : (assignEach (tg :: es) X.env).map (·.2) = assign tg X.env :: (assignEach es X.env).map (·.2) := by rfl) : Tts X cl io (tg :: es) (t0 :: ts) := ⟨fun R G F env env' ds q σ H vs E o Q k => by
  cases ds with
  | nil => cases q
  | cons d ds =>
    cases o with
    | cons o os =>
      rename_i v vs G1 G2
      have q' : (t0 d env).bind (tgs ts ds) = some env' := q
      obtain ⟨env1, e1, e2⟩ := bind1 q'
      refine ⟨_, pgs_cons pg_w pgs_w hs, v, vs, rfl, ?_⟩
      have gn := E.gn
      rw [List.nodup_append] at gn
      have ap2 : ∀ a ∈ G2, a ∉ R ∧ a ∉ F := fun a ha => E.gr a (List.mem_append_right _ ha)
      have ap1 : ∀ a ∈ G1, a ∉ R ∧ a ∉ F := fun a ha => E.gr a (List.mem_append_left _ ha)
      have E1 : EP X.K cl (G2 ++ R) G1 F σ H env := ⟨E.sl.keep (Keep.re (K := X.K) fun a ha _ z => ha (by simp only [List.mem_append] at z ⊢; rcases z with z | (z | z) | z <;> simp [z])), E.nd, fun a ha z => (List.mem_append.mp z).elim (fun z => (ap2 a z).2 ha) (E.ap a ha),
        fun a ha => (List.mem_append.mp ha).elim (fun z => E.gt a (List.mem_append_right _ z)) (E.vd a), gn.1, fun a ha => ⟨fun z => (List.mem_append.mp z).elim (fun z => gn.2.2 a ha a z rfl) (ap1 a ha).1, (ap1 a ha).2⟩, fun a ha => E.gt a (List.mem_append_left _ ha), E.tabs⟩
      refine h1.run (G2 ++ R) G1 F env env1 d e1 σ H v E1 (o.weak fun a ha => by simp only [List.mem_append] at ha ⊢; rcases ha with z | (z | z) | z <;> simp [z]) _ fun σ1 F1 E2 sub1 pin1 => ?_
      have E3 : EP X.K cl R G2 F1 σ1 H env1 := ⟨E2.sl.keep (Keep.re (K := X.K) fun a ha _ z => ha (by simp only [List.mem_append] at z ⊢; rcases z with z | z | z <;> simp [z])), E2.nd, fun a ha z => E2.ap a ha (List.mem_append_right _ z), fun a ha => E2.vd a (List.mem_append_right _ ha), gn.2.1,
        fun a ha => ⟨(ap2 a ha).1, fun z => E2.ap a z (List.mem_append_left _ ha)⟩, fun a ha => E.gt a (List.mem_append_right _ ha), E.tabs⟩
      have os' : Owns X.K cl (G2 ++ (R ++ F1)) H vs ds G2 := os.grow fun a ha => by
        simp only [List.mem_append] at ha
        rcases ha with z | z | z
        · exact .inl (by simp [z])
        · exact .inl (by simp [z])
        · rcases sub1 a z with z | z
          · exact .inl (by simp [z])
          · exact .inl (by simp [z])
      obtain ⟨t, ht, qt⟩ := h2.run R G2 F1 env1 env' ds e2 σ1 H vs E3 os' Q fun σ2 F2 E4 sub2 pin2 => k σ2 F2 E4 (fun a ha => by
        rcases sub2 a ha with z | z
        · rcases sub1 a z with z | z
          · exact .inl z
          · exact .inr (by simp [z])
        · exact .inr (by simp [z])) (pin1.trans pin2)
      exact wGs.of ht qt⟩
theorem tt_tup {es : List Expr} {k0 : Nat} {ts : List TgT} {n : Nat} (h : Tts X cl io es ts) (hc : X.calm = true := by rfl) (hn : (assignEach es X.env).length = n := by rfl) (hst : (assignEach es X.env).findIdx? (·.1) = none := by rfl) (hl : ts.length = n := by rfl) : Tt X cl io (.Tuple es k0 pos) (tgU ts) := ⟨fun R G F env env' d q σ H v E o Q k => by
  unfold tgU at q
  split at q
  · rename_i xs
    obtain ⟨p, vs, rfl, hp, hs⟩ := own_tup o
    refine wG.of (pg_tup hc pgs_w hn hst) ⟨p, vs, rfl, hp, ?_, ?_⟩
    · rw [hs.length, ← hl]
      exact tgs_len q
    · obtain ⟨t, ht, qt⟩ := h.run R G F env env' xs q σ H vs E hs Q k
      exact wGs.of ht qt
  · cases q⟩
end
end Tg

namespace Tg
open PySem PySem.Spec L2
section
variable {X : Cx} {cl : Cl} {io : List Nat} {a b c e tg : Expr} {f g h : EE} {pos : Pos} {st : Stmt} {sts : List Stmt} {s t : SS} {t0 : TgT}
theorem sm_asg (he : Se X cl e f) (ht : Tt X cl io tg t0) (hs : swapsWithSole [tg] e pos.line X.env = pure false := by rfl) (hw : swappedStores [tg] e X.env = pure none := by rfl)
    (h1 : (assignEach [tg] X.env).map (·.2) = [assign tg X.env] := by rfl) : Sm X cl io (.Assign [tg] e pos) (sAsg f t0) := ⟨fun R F env fl q σ H E D k => by
  unfold sAsg at q
  obtain ⟨d, e1, q1⟩ := bind1 q
  cases e2 : t0 d env with
  | none => rw [e2] at q1; cases q1
  | some env' =>
    rw [e2] at q1
    cases q1
    refine wS.of (ps_asg pe_w pg_w hs hw h1) ?_
    refine he.run _ env d e1 σ H E.ev E.vd' _ fun v H' G s1 o1 n1 f1 => ?_
    refine ht.run R G F env env' d e2 σ H' v (E.ep s1 n1 f1 o1.tracked) o1 _ fun σ' F' E' sub pin => ?_
    exact k σ' H' F' E' (Fr.same s1 fun a ha => (sub a ha).elim .inl fun z => .inr (f1 a z)) pin⟩
/-! ### what is walked -/
structure Ii (X : Cx) (cl : Cl) (tg iter : Expr) (f : It) : Prop where
  run : ∀ (W : List Addr) (env : Env) (ds : List D), f env = some ds → ∀ (σ : St) (H : Hp), EV X.K cl W H σ env → VD W H → ∃ wi : TI, PI X tg iter wi ∧ ∀ R : L2.It → Hp → Prop,
    (∀ (J : L2.It) (H1 : Hp) (G : Hp → Prop) (Y : Nat → Hp → V → Hp → Prop), Same H H1 → Walk J ds.length G Y → (∀ W2 H2, Keep W W2 [] H1 H2 → G H2) →
      (∀ i x H2 H3 W2 d, Keep W W2 [] H1 H2 → Y i H2 x H3 → ds[i]? = some d → Same H2 H3 ∧ Own X.K cl W2 H3 x d []) → R J H1) → wi σ H R
theorem Keep.rfl' {W : List Addr} {H : Hp} : Keep W W [] H H := ⟨fun a _ o q => q, fun a o _ q => q, fun a vs q => q, fun a o u q => q, fun a h _ => h⟩
theorem Keep.sqt {K : PySem.W.Frag} {W W' F : List Addr} {H H' : Hp} (k : Keep W W' F H H') {p : Addr} {vs : List V} (h : SqT K H p vs) : SqT K H' p vs := by
  rcases h with (h | ⟨o, h⟩) | h
  · exact .inl (.inl (k.tup _ _ h))
  · exact .inl (.inr ⟨o, k.frz _ _ _ h⟩)
  · exact .inr h
theorem wi_list {e : Expr} {f : EE} (he : Se X cl e f) : ∀ (W : List Addr) (env : Env) (o : Bool) (ds : List D), f env = some (.lst o ds) → D.shs ds = true → ∀ (σ : St) (H : Hp), EV X.K cl W H σ env → VD W H → ∀ R : L2.It → Hp → Prop,
    (∀ (J : L2.It) (H1 : Hp) (G : Hp → Prop) (Y : Nat → Hp → V → Hp → Prop), Same H H1 → Walk J ds.length G Y → (∀ W2 H2, Keep W W2 [] H1 H2 → G H2) →
      (∀ i x H2 H3 W2 d, Keep W W2 [] H1 H2 → Y i H2 x H3 → ds[i]? = some d → Same H2 H3 ∧ Own X.K cl W2 H3 x d []) → R J H1) → iList X.K (wE X e) σ H R := by
  intro W env o ds e1 hs σ H E V R k
  refine he.run W env _ e1 σ H E V _ fun v H1 F s1 o1 n1 f1 => ?_
  have nW : ∀ p vs, v = .ref p → H1 p = some (.lst vs) → p ∉ W := fun p vs e hp z => by
    cases o1 with
    | lstO h _ =>
      cases e
      exact V p z (f1 p List.mem_cons_self)
    | lstF h hn _ =>
      cases e
      exact hn (List.mem_append_right _ z)
  obtain ⟨p, vs, G, rfl, hp, hv, _⟩ := own_lst o1
  have hv' : Owns X.K cl W H1 vs ds [] := (hv.shs hs).weak fun a ha => List.mem_append_right _ ha
  refine ⟨p, rfl, ⟨vs, SqL.of hp⟩, ?_⟩
  refine k (Itl X.K p) H1 (fun H => SqL X.K H p vs) (YAt vs) s1 (by rw [← hv.length]; exact walk_list) (fun W2 H2 kp => SqL.of (kp.out _ _ (nW p vs rfl hp) hp)) fun i x H2 H3 W2 d kp y hd => ?_
  obtain ⟨rfl, hx⟩ := y
  refine ⟨Same.refl _, ?_⟩
  obtain ⟨v', G', h1, h2, h3⟩ := hv'.get hd
  rw [hx] at h1
  cases h1
  have : G' = [] := List.eq_nil_iff_forall_not_mem.mpr fun a ha => nomatch h3 a ha
  subst this
  exact h2.keep kp
theorem ii_seq {e : Expr} {f : EE} (he : Se X cl e f) (ps : ∀ x : Unit, True := fun _ => trivial) : Ii X cl tg e (iSeq f) := ⟨fun W env ds q σ H E V => by
  obtain ⟨d, e1, q1⟩ := bind1 q
  unfold items at q1
  split at q1
  · split at q1
    · rename_i hs
      cases q1
      exact ⟨_, pi_list pe_w, fun R k => wi_list he W env _ ds e1 hs σ H E V R k⟩
    · cases q1
  · split at q1
    · rename_i hs
      cases q1
      refine ⟨_, pi_tup pe_w, fun R k => ?_⟩
      refine he.run W env _ e1 σ H E V _ fun v H1 F s1 o1 n1 f1 => ?_
      obtain ⟨p, vs, rfl, hp, hv⟩ := own_tup o1
      have hv' : Owns X.K cl W H1 vs ds [] := (hv.shs hs).weak fun a ha => List.mem_append_right _ ha
      refine ⟨p, rfl, ⟨vs, hp⟩, ?_⟩
      refine k (Itt X.K p) H1 (fun H => SqT X.K H p vs) (YAt vs) s1 (by rw [← hv.length]; exact walk_tup) (fun W2 H2 kp => kp.sqt hp) fun i x H2 H3 W2 d kp y hd => ?_
      obtain ⟨rfl, hx⟩ := y
      refine ⟨Same.refl _, ?_⟩
      obtain ⟨v', G', h1, h2, h3⟩ := hv'.get hd
      rw [hx] at h1
      cases h1
      have : G' = [] := List.eq_nil_iff_forall_not_mem.mpr fun a ha => nomatch h3 a ha
      subst this
      exact h2.keep kp
    · cases q1
  · rename_i xs
    cases q1
    refine ⟨_, pi_str pe_w, fun R k => ?_⟩
    refine he.run W env _ e1 σ H E V _ fun v H1 F s1 o1 n1 f1 => ?_
    cases own_str o1
    refine ⟨_, rfl, ?_⟩
    refine k (Its ⟨xs.toArray⟩) H1 (fun _ => True) (fun i H v H' => H' = H ∧ ∃ c, (⟨xs.toArray⟩ : Str).cps[i]? = some c ∧ v = .str ⟨#[c]⟩) s1 (by rw [List.length_map]; exact walk_str) (fun W2 H2 kp => trivial) fun i x H2 H3 W2 d kp y hd => ?_
    obtain ⟨rfl, c, hc, rfl⟩ := y
    refine ⟨Same.refl _, ?_⟩
    rw [List.getElem?_map] at hd
    have hc' : xs[i]? = some c := by simpa using hc
    rw [hc'] at hd
    cases hd
    exact .str [c]
  · rename_i ns
    cases q1
    refine ⟨_, pi_list pe_w, fun R k => ?_⟩
    refine he.run W env _ e1 σ H E V _ fun v H1 F s1 o1 n1 f1 => ?_
    cases o1 with
    | scr hr hn =>
      refine ⟨_, rfl, ⟨_, .inl hr⟩, ?_⟩
      rename_i p
      refine k (Itl X.K p) H1 (fun H => SqL X.K H p (ns.map L2.V.int)) (YAt _) s1 (by rw [List.length_map]; have := walk_list (K := X.K) (a := p) (xs := ns.map L2.V.int); rw [List.length_map] at this; exact this) (fun W2 H2 kp => ?_) fun i x H2 H3 W2 d kp y hd => ?_
      · rcases hr with hr | ⟨o, hr⟩
        · exact SqL.of (kp.out _ _ (fun z => hn (List.mem_append_right _ z)) hr)
        · exact .inl (.inr ⟨o, kp.frz _ _ _ hr⟩)
      · obtain ⟨rfl, hx⟩ := y
        refine ⟨Same.refl _, ?_⟩
        rw [List.getElem?_map] at hd hx
        cases hn' : ns[i]? with
        | none => rw [hn'] at hd; cases hd
        | some n =>
          rw [hn'] at hd hx
          cases hd
          cases hx
          exact .int n
    | scrK hr =>
      refine ⟨_, rfl, ⟨_, .inr hr⟩, ?_⟩
      rename_i p
      refine k (Itl X.K p) H1 (fun H => SqL X.K H p (ns.map L2.V.int)) (YAt _) s1 (by rw [List.length_map]; have := walk_list (K := X.K) (a := p) (xs := ns.map L2.V.int); rw [List.length_map] at this; exact this) (fun W2 H2 kp => .inr hr) fun i x H2 H3 W2 d kp y hd => ?_
      obtain ⟨rfl, hx⟩ := y
      refine ⟨Same.refl _, ?_⟩
      rw [List.getElem?_map] at hd hx
      cases hn' : ns[i]? with
      | none => rw [hn'] at hd; cases hd
      | some n =>
        rw [hn'] at hd hx
        cases hd
        cases hx
        exact .int n
  · cases q1⟩
theorem range_at {n i : Nat} {u : Nat → D} {d : D} (h : ((List.range n).map u)[i]? = some d) : i < n ∧ d = u i := by
  rw [List.getElem?_map] at h
  cases e : (List.range n)[i]? with
  | none => rw [e] at h; cases h
  | some j =>
    rw [e] at h
    cases h
    obtain ⟨h1, h2⟩ := List.getElem?_eq_some_iff.mp e
    rw [List.getElem_range] at h2
    rw [List.length_range] at h1
    exact ⟨h1, by rw [h2]⟩
theorem ii_rng {p : Pos} (ha : Pk X cl a f) (hg : Gl X "range") (hm : X.mg "range" = none) (h1 : starEach [a] X.env = (false, eval a X.env) :: starEach [] X.env := by rfl) (hs : starEach [a] X.env = [(false, eval a X.env)] := by rfl) : Ii X cl tg (.Call (.Name "range" p) [a] [] pos) (iRng f) := ⟨fun W env ds q σ H E V => by
  unfold iRng at q
  split at q
  · rename_i n e1
    split at q
    · rename_i hz
      unfold small62 at hz
      rw [decide_eq_true_eq] at hz
      cases q
      refine ⟨_, pi_range1 hg hm (pa_cons pe_w pa_nil h1) hs, fun R k => ?_⟩
      refine ha.run W env _ e1 σ H E V _ fun v H1 F s1 o1 => ?_
      cases own_int o1
      refine ⟨n, rfl, hz.1, hz.2, ?_⟩
      refine k (Itr 0 n.toNat) H1 (fun _ => True) (YFn fun i => .int (0 + (i : Int))) s1 (by rw [List.length_map, List.length_range]; exact walk_range) (fun _ _ _ => trivial) fun i x H2 H3 W2 d kp y hd => ?_
      obtain ⟨rfl, rfl⟩ := y
      obtain ⟨_, rfl⟩ := range_at hd
      refine ⟨Same.refl _, ?_⟩
      show Own X.K cl W2 H3 (L2.V.int (0 + (i : Int))) (.int (i : Int)) []
      rw [Int.zero_add]
      exact .int _
    · cases q
  · cases q⟩
theorem ii_rng2 {p : Pos} (ha : Pk X cl a f) (hb : Pk X cl b g) (hg : Gl X "range") (hm : X.mg "range" = none) (h1 : starEach [a, b] X.env = (false, eval a X.env) :: starEach [b] X.env := by rfl) (h2 : starEach [b] X.env = (false, eval b X.env) :: starEach [] X.env := by rfl)
    (hs : starEach [a, b] X.env = [(false, eval a X.env), (false, eval b X.env)] := by rfl) (hs2 : starEach [b] X.env = [(false, eval b X.env)] := by rfl) : Ii X cl tg (.Call (.Name "range" p) [a, b] [] pos) (iRng2 f g) := ⟨fun W env ds q σ H E V => by
  unfold iRng2 at q
  split at q
  · rename_i m n e1 e2
    split at q
    · rename_i hz
      unfold small62 at hz
      rw [Bool.and_eq_true, decide_eq_true_eq, decide_eq_true_eq] at hz
      cases q
      refine ⟨_, pi_range2 hg hm (pa_cons pe_w (pa_cons pe_w pa_nil h2) h1) hs hs2, fun R k => ?_⟩
      refine ha.run W env _ e1 σ H E V _ fun v H1 F s1 o1 => ?_
      refine hb.run W env _ e2 σ H1 (E.mono s1) (V.mono s1) _ fun u H2 G s2 o2 => ?_
      cases own_int o1
      cases own_int o2
      refine ⟨m, n, rfl, ⟨hz.1.1, hz.1.2, hz.2.1, hz.2.2⟩, ?_⟩
      refine k (Itr m (n - m).toNat) H2 (fun _ => True) (YFn fun i => .int (m + (i : Int))) (s1.trans s2) (by rw [List.length_map, List.length_range]; exact walk_range) (fun _ _ _ => trivial) fun i x H2 H3 W2 d kp y hd => ?_
      obtain ⟨rfl, rfl⟩ := y
      obtain ⟨_, rfl⟩ := range_at hd
      exact ⟨Same.refl _, .int _⟩
    · cases q
  · cases q⟩
/-! ### for -/
theorem Fr.keepW {R F F' : List Addr} {H H' : Hp} (a : Fr F H F' H') : Keep (R ++ F) (R ++ F') [] H H' := ⟨(fun x hx => nomatch hx), fun x o n h => a.keep x o h fun z => n (List.mem_append_right _ z), a.tup, a.frz, fun x n hn z => (List.mem_append.mp z).elim (fun z => n (List.mem_append_left _ z)) fun z => (a.new x z).elim (fun z => n (List.mem_append_right _ z)) hn⟩
theorem sm_for {iter : Expr} {body : List Stmt} {i0 : It} (hi : Ii X cl tg iter i0) (ht : Tt X cl io tg t0) (hb : Sb X cl io body s) (hp : PassesOwn (model X.prog X.w) X.A X.env X.xe := by exact PassesOwn.never) (hc : X.calm = true := by rfl)
    (hs : ∀ x, foldedSetIterable iter X.env x = pure x := by intro _; rfl) : Sm X cl io (.For tg iter body [] pos) (sForI i0 t0 s) := ⟨fun R F env fl q σ H E D k => by
  unfold sForI at q
  obtain ⟨ds, e1, q1⟩ := bind1 q
  obtain ⟨wi, hw, run⟩ := hi.run (R ++ F) env ds e1 σ H E.ev E.vd'
  refine wS.of (ps_for hp hc hw pg_w pb_w hs) ?_
  refine run _ fun J H1 G Y s1 wk hG hY => ?_
  let Pv : Nat → St → Hp → Prop := fun i σ' H' => (∃ env' F', ER X.K cl R F' σ' H' env' ∧ Fr F H1 F' H' ∧ Pin io σ σ' ∧ sFor t0 s (ds.drop i) env' = some fl) ∨ (i = ds.length + 1)
  refine for_it wk (D := D) (fun i σ' H' => ∃ env' F', ER X.K cl R F' σ' H' env' ∧ Fr F H1 F' H' ∧ Pin io σ σ' ∧ sFor t0 s (ds.drop i) env' = some fl) ⟨env, F, E.mono s1, Fr.refl, Pin.refl, q1⟩ ?_ ?_ ?_
  · rintro i σ' H' _ ⟨env', F', E', fr, _, _⟩
    exact hG _ H' fr.keepW
  · rintro i x σ' H' H'' hi' ⟨env', F', E', fr, pn, q2⟩ y
    have hd : ds[i]? = some ds[i] := List.getElem?_eq_getElem hi'
    obtain ⟨s2, ox⟩ := hY i x H' H'' (R ++ F') ds[i] fr.keepW y hd
    rw [List.drop_eq_getElem_cons hi'] at q2
    have q3 : (t0 ds[i] env').bind (fun env1 => match s env1 with
      | some (.nx env') => sFor t0 s (ds.drop (i + 1)) env'
      | some (.ct env') => sFor t0 s (ds.drop (i + 1)) env'
      | some (.bk env') => some (.nx env')
      | some (.rt d env') => some (.rt d env')
      | none => none) = some fl := q2
    obtain ⟨env1, e2, q4⟩ := bind1 q3
    have E'' := E'.mono s2
    have ep : EP X.K cl R [] F' σ' H'' env' := E'.ep s2 List.nodup_nil (fun _ z => nomatch z) (fun _ z => nomatch z)
    refine ht.run R [] F' env' env1 ds[i] e2 σ' H'' x ep ox _ fun σ2 F2 E2 sub2 pin2 => ?_
    have fr2 : Fr F H1 F2 H'' := fr.trans (Fr.same s2 fun a ha => (sub2 a ha).elim .inl fun z => nomatch z)
    cases e3 : s env1 with
    | none => rw [e3] at q4; cases q4
    | some fl1 =>
      rw [e3] at q4
      refine hb.run R F2 env1 fl1 e3 σ2 H'' E2 _ ?_
      cases fl1 with
      | nx e' => exact fun σ3 H3 F3 E3 fr3 pin3 => ⟨e', F3, E3, fr2.trans fr3, (pn.trans pin2).trans pin3, q4⟩
      | ct e' => exact fun σ3 H3 F3 E3 fr3 pin3 => ⟨e', F3, E3, fr2.trans fr3, (pn.trans pin2).trans pin3, q4⟩
      | bk e' =>
        cases q4
        exact fun σ3 H3 F3 E3 fr3 pin3 => k σ3 H3 F3 E3 ((Fr.same s1 fun a ha => .inl ha).trans (fr2.trans fr3)) ((pn.trans pin2).trans pin3)
      | rt d e' =>
        cases q4
        exact fun v σ3 H3 F3 G3 E3 o3 fr3 pin3 => k v σ3 H3 F3 G3 E3 o3 ((Fr.same s1 fun a ha => .inl ha).trans (fr2.trans fr3)) ((pn.trans pin2).trans pin3)
  · rintro σ' H' ⟨env', F', E', fr, pn, q2⟩
    rw [List.drop_length] at q2
    cases q2
    exact k σ' H' F' E' ((Fr.same s1 fun a ha => .inl ha).trans fr) pn⟩
/-! ### while -/
theorem sm_while {body : List Stmt} (hc : Te X cl c h) (hb : Sb X cl io body s) (hp : PassesOwn (model X.prog X.w) X.A X.env X.xe := by exact PassesOwn.never) : Sm X cl io (.While c body [] pos) (sWh h s) := ⟨fun R F env fl q σ H E D k => by
  refine wS.of (ps_while hp pt_w pb_w) ?_
  refine ⟨fun m σ' H' => ∃ env' F', ER X.K cl R F' σ' H' env' ∧ Fr F H F' H' ∧ Pin io σ σ' ∧ sWhile h s m env' = some fl, ⟨fuel, env, F, E, Fr.refl, Pin.refl, q⟩, ?_⟩
  rintro m σ' H' ⟨env', F', E', fr, pn, q1⟩
  cases m with
  | zero => cases q1
  | succ m =>
    unfold sWhile at q1
    split at q1
    · rename_i e1
      refine hc.run _ env' false e1 σ' H' E'.ev E'.vd' _ fun H1 s1 => ?_
      cases q1
      have fr1 := fr.trans (Fr.same s1 fun a ha => .inl ha)
      exact k σ' H1 F' (E'.mono s1) fr1 pn
    · rename_i e1
      refine hc.run _ env' true e1 σ' H' E'.ev E'.vd' _ fun H1 s1 => ?_
      have fr1 := fr.trans (Fr.same s1 fun a ha => .inl ha)
      refine ⟨fun σ2 H2 => ∃ env2 F2, ER X.K cl R F2 σ2 H2 env2 ∧ Fr F H F2 H2 ∧ Pin io σ σ2 ∧ sWhile h s m env2 = some fl, fun σ2 H2 w => ⟨m, Nat.lt_succ_self m, w⟩, ?_⟩
      cases e3 : s env' with
      | none => rw [e3] at q1; cases q1
      | some fl1 =>
        rw [e3] at q1
        refine hb.run R F' env' fl1 e3 σ' H1 (E'.mono s1) _ ?_
        cases fl1 with
        | nx e' => exact fun σ3 H3 F3 E3 fr3 pin3 => ⟨e', F3, E3, fr1.trans fr3, pn.trans pin3, q1⟩
        | ct e' => exact fun σ3 H3 F3 E3 fr3 pin3 => ⟨e', F3, E3, fr1.trans fr3, pn.trans pin3, q1⟩
        | bk e' =>
          cases q1
          exact fun σ3 H3 F3 E3 fr3 pin3 => k σ3 H3 F3 E3 (fr1.trans fr3) (pn.trans pin3)
        | rt d e' =>
          cases q1
          exact fun v σ3 H3 F3 G3 E3 o3 fr3 pin3 => k v σ3 H3 F3 G3 E3 o3 (fr1.trans fr3) (pn.trans pin3)
    · cases q1⟩
end
end Tg

namespace Tg
open PySem PySem.Spec L2
/-! ### defs -/
/-- what a def does: its parameters, its slots, those that it may change for the caller, its body -/
def runFn (np ns : Nat) (io : List Nat) (body : SS) (ds : List D) : Option (D × List D) :=
  if ds.length = np then
    match body (ds ++ List.replicate (ns - np) .hole) with
    | some (.rt d e) => if io.all (fun i => decide (i < e.length)) then some (d, io.map fun i => e.getD i .hole) else none
    | some (.nx e) => if io.all (fun i => decide (i < e.length)) then some (.non, io.map fun i => e.getD i .hole) else none
    | _ => none
  else none
/-- the parameters that may change, behind the call: each at its own value -/
inductive Fins (K : PySem.W.Frag) (cl : Cl) (W : List Addr) (H : Hp) (vs : List V) : List Nat → List D → List Addr → Prop
  | nil : Fins K cl W H vs [] [] []
  | cons {i : Nat} {is : List Nat} {v : V} {d : D} {ds : List D} {F G : List Addr} : vs[i]? = some v → Own K cl W H v d F → Fins K cl W H vs is ds G → Fins K cl W H vs (i :: is) (d :: ds) (F ++ G)
/-- the promise of a def that is called so -/
def spF (K : PySem.W.Frag) (cl : Cl) (np : Nat) (io : List Nat) (sem : List D → Option (D × List D)) : Sp := fun vs H Q _ =>
  vs.length = np ∧ ∃ (R F : List Addr) (ds : List D) (r : D) (fin : List D), Owns K cl (R ++ F) H vs ds F ∧ F.Nodup ∧ (∀ a ∈ F, a ∉ R) ∧ VD R H ∧ TabsOk cl H ∧ sem ds = some (r, fin) ∧
    ∀ v H' F' G, Own K cl (G ++ (R ++ F')) H' v r G → Fins K cl (G ++ (R ++ F')) H' vs io fin F' → (G ++ F').Nodup → (∀ a ∈ G ++ F', a ∉ R) → Fr F H (G ++ F') H' → Q v H'
section
variable {P : Program} {w : World} {K : PySem.W.Frag} {mg : Str → Option Value} {base : Heap} {cl : Cl}
theorem sl_params : ∀ {W : List Addr} {H : Hp} {vs : List V} {ds : List D} {F : List Addr} (n : Nat), Owns K cl W H vs ds F → Sl K cl W H (vs.map some ++ List.replicate n Option.none) (ds ++ List.replicate n .hole) F
  | W, H, _, _, _, 0, .nil => .nil
  | W, H, _, _, _, n + 1, .nil => by
    rw [List.replicate_succ, List.replicate_succ]
    exact .skip none (sl_params n .nil)
  | W, H, _, _, _, n, .cons o os => .cons o (sl_params n os)
theorem sl_at {W : List Addr} {H : Hp} {σ : St} {env : Env} {F : List Addr} (r : Sl K cl W H σ env F) {i : Nat} {d : D} (hd : env[i]? = some d) {v : V} (hv : σ[i]? = some (some v)) : ∃ G, Own K cl W H v d G ∧ ∀ a ∈ G, a ∈ F := by
  obtain ⟨o, G, F1, F2, h1, h2, h3, _⟩ := r.zoom hd
  rw [hv] at h1
  cases h1
  rcases h3 with ⟨rfl, rfl⟩ | ⟨u, e, h3⟩
  · exact ⟨[], .hole v, fun a ha => nomatch ha⟩
  · cases e
    exact ⟨G, h3, fun a ha => by rw [h2]; simp [ha]⟩
/-- a pure def: nothing that is handed in changes -/
theorem fn_pure {x qual : Str} {st : Stmt} {f : Addr} {fd : FuncData} {N ps : List Str} {k np : Nat} {body : SS} (F : Fun K x qual st f fd) (S : FnScope N ps (defScope st)) (hnp : ps.length = np := by rfl)
    (hb : ∀ (cdv : Value) (A : Around) (outer : List PySem.Env) (s : Shared) (H : Hp) (E : XK), Room k (A.deeper (PyProof.Rows.envOfC qual (defScope st) s.heap.objs.size f cdv)) → Sb (cxOf CX0 P w K mg base N qual (defScope st) f cdv A outer s H E).nox cl [] (defBody st) body) :
    FnOk P w K mg base CX0 (k + 1) f fd ps (spF K cl np [] (runFn np N.length [] body)) := by
  refine F.ok S (fun vs H Q E h => by rw [h.1, hnp]) (fun cdv A outer s H vs Q E hr h => ?_)
  obtain ⟨hl, R, F0, ds, r, fin, ow, nd, ap, vd, tb, hs, k0⟩ := h
  have hX := hb cdv A outer s H E hr
  refine ⟨_, pb_w, ?_⟩
  unfold runFn at hs
  have hdl : ds.length = np := by rw [← ow.length, hl]
  rw [if_pos hdl] at hs
  have e0 : L2.start N vs = vs.map some ++ List.replicate (N.length - np) Option.none := by unfold L2.start; rw [hl]
  have er : ER K cl R F0 (L2.start N vs) H (ds ++ List.replicate (N.length - np) .hole) := ⟨by rw [e0]; exact sl_params _ ow, nd, ap, vd, tb⟩
  split at hs
  · rename_i d e e1
    rw [if_pos (by rfl)] at hs
    cases hs
    refine hX.run R F0 _ _ e1 _ H er _ fun v σ' H' F' G ep o fr pn => ?_
    refine k0 v H' [] G (o.weak fun a ha => ?_) .nil (by rw [List.append_nil]; exact ep.gn) (fun a ha => (ep.gr a (by simpa using ha)).1) (fr.mono fun a ha => .inl (by simp only [List.mem_append] at ha ⊢; rcases ha with z | z <;> first | simp [z] | cases z))
    simp only [List.mem_append] at ha ⊢
    rcases ha with z | z | z <;> first | simp [z] | cases z
  · rename_i e e1
    rw [if_pos (by rfl)] at hs
    cases hs
    refine hX.run R F0 _ _ e1 _ H er _ fun σ' H' F' er' fr pn => ?_
    exact k0 .non H' [] [] .non .nil List.nodup_nil (fun _ z => nomatch z) (fr.mono fun a ha => nomatch ha)
  · cases hs
/-! ### calls -/
variable {X : Cx}
theorem own_nodup {H : Hp} {W : List Addr} : ∀ (b : Nat), True := fun _ => trivial
/-- f(..), of things of one's own or that may be shared -/
theorem se_call {k np : Nat} {f0 : Addr} {fd : FuncData} {ps : List Str} {sem : List D → Option (D × List D)} {call : Call} {j : Nat} {x : Str} {p pos : Pos} {e : Expr} {es : List Expr} {fs : EA}
    (F : FnOk X.prog X.w X.K X.mg X.base CX0 k f0 fd ps (spF X.K cl np [] sem)) (hsem : call j = sem) (hr : Room k X.A) (hg : Gl X x) (hm : X.mg x = some (.ref f0)) (hk : PySem.W.keepIn X.K (.ref f0) = true) (hb : Binds X.K fd ps []) (ha : Sa X cl (e :: es) fs) (hnp : (e :: es).length = np := by rfl) (hfl : ∀ env ds, fs env = some ds → ds.length = np)
    (hdb : (x == ("__debug__" : Str)) = false := by decide) (he : starEach (e :: es) X.env = (false, eval e X.env) :: starEach es X.env := by rfl) (hpl : (backTo pos (starEach es X.env)).any (·.1) = false := by rfl) :
    Se X cl (.Call (.Name x p) (e :: es) [] pos) (eCall call j fs) := ⟨fun W env d q σ H E V Q kq => by
  unfold eCall at q
  obtain ⟨ds, e1, q1⟩ := bind1 q
  rw [hsem] at q1
  cases e2 : sem (D.fzs ds) with
  | none => rw [e2] at q1; cases q1
  | some rf =>
    rw [e2] at q1
    cases q1
    refine wE.of (pe_call F hr hg hm hk hb .nil pass0 pa_w hdb he hpl) ?_
    refine ha.run W env ds e1 σ H E V _ fun vs H1 G s1 o1 n1 f1 => ?_
    have o2 : Owns X.K cl (W ++ []) H1 vs (D.fzs ds) [] := by
      rw [List.append_nil]
      exact Owns.fz W o1 (fun a _ ha z => ha (List.mem_append_right _ z)) fun a ha z => V a z (f1 a ha)
    show spF X.K cl np [] sem (vs ++ []) H1 Q _
    rw [List.append_nil]
    refine ⟨by rw [o1.length, hfl env ds e1], W, [], D.fzs ds, rf.1, rf.2, o2, List.nodup_nil, (fun _ z => nomatch z), V.mono s1, E.tabs.mono s1, e2, fun v H2 F' G' ow fi nd ap fr => ?_⟩
    have hF' : F' = [] := by
      cases h : rf.2 with
      | nil => rw [h] at fi; cases fi; rfl
      | cons _ _ => rw [h] at fi; cases fi
    subst hF'
    have s2 : Same H1 H2 := fr.same0
    rw [List.append_nil] at nd ow
    exact kq v H2 G' (s1.trans s2) ow nd fun a ha => Same.back s1 ((fr.new a (by simpa using ha)).elim (fun z => nomatch z) id)⟩
end
end Tg

namespace Tg
open PySem PySem.Spec L2
/-! ### paths -/
/-- one step down -/
def Nd1 (K : PySem.W.Frag) (cl : Cl) (H : Hp) (v : V) : St1 → V → Prop
  | .ix (.int i), u => ∃ a vs, v = .ref a ∧ (SqL K H a vs ∨ SqT K H a vs) ∧ atI vs i = some u
  | .fd c f, u => ∃ a dx fs, v = .ref a ∧ H a = some (.ins (cl c) dx fs) ∧ fs.lookup f = some u
  | .ky y, u => ∃ a, v = .ref a ∧ ((∃ kvs k, H a = some (.dK kvs) ∧ y = kD k ∧ valV kvs k = some u) ∨
      ∃ o kvs k W, H a = some (ObjE a o) ∧ DnOk cl.P cl.w a o kvs ∧ Owns K cl W H (kvs.map fun p => V.ref p.2.1) (kvs.map fun p => nkD p.1) [] ∧ y = nkD k ∧ valV (nv kvs) k = some u)
  | _, _ => False
def Nd (K : PySem.W.Frag) (cl : Cl) (H : Hp) : V → List St1 → V → Prop
  | v, [], u => u = v
  | v, s :: r, u => ∃ w, Nd1 K cl H v s w ∧ Nd K cl H w r u
section
variable {K : PySem.W.Frag} {cl : Cl}
theorem Owns.zoom : ∀ {W : List Addr} {H : Hp} {vs : List V} {ds : List D} {F : List Addr} {j : Nat} {d : D}, Owns K cl W H vs ds F → ds[j]? = some d → ∃ v G F1 F2, vs[j]? = some v ∧ F = F1 ++ (G ++ F2) ∧ Own K cl W H v d G ∧
    ∀ (W' : List Addr) (H' : Hp) (v' : V) (d' : D) (G' : List Addr), Keep W W' (F1 ++ F2) H H' → Own K cl W' H' v' d' G' → Owns K cl W' H' (vs.set j v') (ds.set j d') (F1 ++ (G' ++ F2))
  | _, _, _, _, _, _, _, .nil, e => by simp at e
  | W, H, _, _, _, 0, d, .cons (v := v) (F := G) (G := F2) o os, e => by
    simp at e
    subst e
    exact ⟨v, G, [], F2, rfl, rfl, o, fun W' H' v' d' G' k o' => Owns.cons (F := G') (G := F2) o' (os.keep k)⟩
  | W, H, _, _, _, j + 1, d, .cons (F := G0) o os, e => by
    obtain ⟨v, G, F1, F2, h1, h2, h3, h4⟩ := Owns.zoom (j := j) (d := d) os (by simpa using e)
    refine ⟨v, G, G0 ++ F1, F2, by simpa using h1, by rw [h2, List.append_assoc], h3, fun W' H' v' d' G' k o' => ?_⟩
    rw [List.append_assoc]
    rw [List.append_assoc] at k
    exact .cons (o.keep k.app1) (h4 W' H' v' d' G' k.app2 o')
theorem lookF_ix {f : Str} : ∀ {fs : List (Str × V)} {ds : List (Str × D)} {d : D}, fs.map (·.1) = ds.map (·.1) → lookF f ds = some d → ∃ j : Nat, (ds.map (·.2))[j]? = some d ∧ fs.lookup f = (fs.map (·.2))[j]? ∧ ∀ n : D, putFD f n ds = (ds.map (·.1)).zip ((ds.map (·.2)).set j n)
  | _, [], _, _, h => nomatch h
  | [], _ :: _, _, h, _ => nomatch h
  | (g, v) :: fs, (g', e) :: ds, d, h, h2 => by
    have hh : g = g' ∧ fs.map (·.1) = ds.map (·.1) := by simpa using h
    obtain ⟨rfl, hr⟩ := hh
    unfold lookF at h2
    by_cases hf : f = g
    · subst hf
      rw [if_pos rfl] at h2
      cases h2
      refine ⟨0, rfl, by simp [List.lookup_cons], fun n => ?_⟩
      unfold putFD
      rw [if_pos rfl]
      simp only [List.map_cons, List.set_cons_zero, List.zip_cons_cons]
      congr 1
      clear h hr
      induction ds with
      | nil => rfl
      | cons p r ih => simp only [List.map_cons, List.zip_cons_cons]; rw [← ih]
    · rw [if_neg hf] at h2
      obtain ⟨j, h3, h4, h5⟩ := lookF_ix hr h2
      refine ⟨j + 1, by simpa using h3, ?_, fun n => ?_⟩
      · rw [List.lookup_cons]
        have : (f == g) = false := by simpa using hf
        rw [this]
        simpa using h4
      · unfold putFD
        rw [if_neg (fun z => hf z.symm), h5 n]
        simp
theorem keepOwn {W W' F : List Addr} {H H' : Hp} (k : Keep W W' F H H') {p : Addr} (h : p ∈ F) {o : HO} [NT o] (e : H p = some o) : H' p = some o := k.own p h o e
mutual
theorem Own.sh' : ∀ {W : List Addr} {H : Hp} {v : V} {d : D} {F : List Addr}, Own K cl W H v d F → F = [] → d.sh = true
  | _, _, _, _, _, .non, _ => rfl
  | _, _, _, _, _, .bl b, _ => rfl
  | _, _, _, _, _, .int i, _ => rfl
  | _, _, _, _, _, .str x, _ => rfl
  | _, _, _, _, _, .tup h hs, e => Owns.sh' hs e
  | _, _, _, _, _, .lstO h hs, e => nomatch e
  | _, _, _, _, _, .lstF h hn hs, _ => rfl
  | _, _, _, _, _, .scr _ _, _ => rfl
  | _, _, _, _, _, .scrK _, _ => rfl
  | _, _, _, _, _, .dicO h _ hs, e => nomatch e
  | _, _, _, _, _, .dicF h hn _ hs, _ => rfl
  | _, _, _, _, _, .dtO h _ hs, e => nomatch e
  | _, _, _, _, _, .dtF h hn _ hs, _ => rfl
  | _, _, _, _, _, .dnO h _ _ _ hs, e => nomatch e
  | _, _, _, _, _, .dnF h hn _ _ _ hs, _ => rfl
  | _, _, _, _, _, .objO h _ hs, e => nomatch e
  | _, _, _, _, _, .objF h hn _ hs, _ => rfl
  | _, _, _, _, _, .hole v, _ => rfl
theorem Owns.sh' : ∀ {W : List Addr} {H : Hp} {vs : List V} {ds : List D} {F : List Addr}, Owns K cl W H vs ds F → F = [] → D.shs ds = true
  | _, _, _, _, _, .nil, _ => rfl
  | _, _, _, _, _, .cons (d := d) (ds := ds) (F := F) (G := G) h hs, e => by
    obtain ⟨e1, e2⟩ := List.append_eq_nil_iff.mp e
    show (d.sh && D.shs ds) = true
    rw [Own.sh' h e1, Owns.sh' hs e2]
    rfl
end
theorem zip_fst {α β : Type} : ∀ {l : List α} {m : List β}, l.length = m.length → (l.zip m).map (·.1) = l
  | [], [], _ => rfl
  | a :: l, b :: m, h => by
    show a :: (l.zip m).map (·.1) = a :: l
    rw [zip_fst (by simpa using h)]
theorem zip_snd {α β : Type} : ∀ {l : List α} {m : List β}, l.length = m.length → (l.zip m).map (·.2) = m
  | [], [], _ => rfl
  | a :: l, b :: m, h => by
    show b :: (l.zip m).map (·.2) = b :: m
    rw [zip_snd (by simpa using h)]
theorem putFD_maps {f : Str} {fs : List (Str × V)} {ds : List (Str × D)} {d : D} (h : fs.map (·.1) = ds.map (·.1)) (h2 : lookF f ds = some d) : ∃ j : Nat, (ds.map (·.2))[j]? = some d ∧ fs.lookup f = (fs.map (·.2))[j]? ∧ ∀ n : D, (putFD f n ds).map (·.1) = ds.map (·.1) ∧ (putFD f n ds).map (·.2) = (ds.map (·.2)).set j n := by
  obtain ⟨j, h3, h4, h5⟩ := lookF_ix h h2
  refine ⟨j, h3, h4, fun n => ⟨?_, ?_⟩⟩
  · rw [h5 n]; exact zip_fst (by simp)
  · rw [h5 n]; exact zip_snd (by simp)
/-- down a path, and back up with another thing there -/
theorem own_path : ∀ {W : List Addr} {H : Hp} (l : List St1) {v : V} {d n : D} {F : List Addr}, Own K cl W H v d F → getP l d = some n → n.sh = false → ∃ u G F1 F2, Nd K cl H v l u ∧ F = F1 ++ (G ++ F2) ∧ Own K cl W H u n G ∧
    ∀ (W' : List Addr) (H' : Hp) (n' : D) (G' : List Addr), Keep W W' (F1 ++ F2) H H' → Own K cl W' H' u n' G' → Own K cl W' H' v (setP l n' d) (F1 ++ (G' ++ F2))
  | W, H, [], v, d, n, F, o, e, hsh => by
    have e' : some d = some n := e
    cases e'
    refine ⟨v, F, [], [], rfl, by simp, o, fun W' H' n' G' k o' => ?_⟩
    show Own K cl W' H' v n' ([] ++ (G' ++ []))
    rw [List.append_nil]
    exact o'
  | W, H, s :: r, v, d, n, F, o, e, hsh => by
    have e' : (getS s d).bind (getP r) = some n := e
    obtain ⟨d1, e1, e2⟩ := bind1 e'
    have up : ∀ n', setP (s :: r) n' d = setS s (setP r n' d1) d := fun n' => by
      show (match getS s d with
        | some e => setS s (setP r n' e) d
        | none => d) = _
      rw [e1]
    unfold getS at e1
    split at e1
    · rename_i i ob xs
      obtain ⟨j, h1, h2⟩ := atD_mem e1
      have upd' : ∀ n', setS (.ix (.int i)) n' (.lst ob xs) = .lst ob (xs.set j n') := fun n' => by
        show (match ixD xs.length i with
          | some j => D.lst ob (xs.set j n')
          | none => .lst ob xs) = _
        rw [h1]
      cases o with
      | lstO h hs =>
        rename_i a vs F0
        obtain ⟨u1, G1, A, B, g1, g2, g3, g4⟩ := hs.zoom h2
        obtain ⟨u, G, F1, F2, k1, k2, k3, k4⟩ := own_path r g3 e2 hsh
        have sv : vs.set j u1 = vs := set_self g1
        refine ⟨u, G, a :: (A ++ F1), F2 ++ B, ⟨u1, ⟨a, vs, rfl, .inl (SqL.of h), ?_⟩, k1⟩, by rw [g2, k2]; simp, k3, fun W' H' n' G' kp o' => ?_⟩
        · show (ixD vs.length i).bind _ = _
          rw [hs.length, h1]
          exact g1
        · rw [up, upd']
          have q1 := k4 W' H' n' G' ⟨fun b hb => kp.own b (by simp only [List.mem_append, List.mem_cons] at hb ⊢; rcases hb with z | z <;> simp [z]), kp.out, kp.tup, kp.frz, kp.fr⟩ o'
          have q2 := g4 W' H' u1 _ _ ⟨fun b hb => kp.own b (by simp only [List.mem_append, List.mem_cons] at hb ⊢; rcases hb with z | z <;> simp [z]), kp.out, kp.tup, kp.frz, kp.fr⟩ q1
          rw [sv] at q2
          have q3 := Own.lstO (kp.own a (by simp) _ h) q2
          have e3 : a :: (A ++ ((F1 ++ (G' ++ F2)) ++ B)) = a :: (A ++ F1) ++ (G' ++ (F2 ++ B)) := by simp
          rw [e3] at q3
          exact q3
      | lstF h hn hs =>
        rename_i a vs
        obtain ⟨u1, G1, A, B, g1, g2, g3, g4⟩ := hs.zoom h2
        have z0 : A = [] ∧ G1 = [] ∧ B = [] := by
          have := g2.symm
          simpa using this
        obtain ⟨rfl, rfl, rfl⟩ := z0
        obtain ⟨u, G, F1, F2, k1, k2, k3, k4⟩ := own_path r g3 e2 hsh
        have z1 : F1 = [] ∧ G = [] ∧ F2 = [] := by
          have := k2.symm
          simpa using this
        have z2 := k3.sh' z1.2.1
        rw [hsh] at z2
        cases z2
    · rename_i i xs
      obtain ⟨j, h1, h2⟩ := atD_mem e1
      have upd' : ∀ n', setS (.ix (.int i)) n' (.tup xs) = .tup (xs.set j n') := fun n' => by
        show (match ixD xs.length i with
          | some j => D.tup (xs.set j n')
          | none => .tup xs) = _
        rw [h1]
      cases o with
      | tup h hs =>
        rename_i a vs
        obtain ⟨u1, G1, A, B, g1, g2, g3, g4⟩ := hs.zoom h2
        obtain ⟨u, G, F1, F2, k1, k2, k3, k4⟩ := own_path r g3 e2 hsh
        have sv : vs.set j u1 = vs := set_self g1
        refine ⟨u, G, A ++ F1, F2 ++ B, ⟨u1, ⟨a, vs, rfl, .inr (SqT.of h), ?_⟩, k1⟩, by rw [g2, k2]; simp, k3, fun W' H' n' G' kp o' => ?_⟩
        · show (ixD vs.length i).bind _ = _
          rw [hs.length, h1]
          exact g1
        · rw [up, upd']
          have q1 := k4 W' H' n' G' ⟨fun b hb => kp.own b (by simp only [List.mem_append] at hb ⊢; rcases hb with z | z <;> simp [z]), kp.out, kp.tup, kp.frz, kp.fr⟩ o'
          have q2 := g4 W' H' u1 _ _ ⟨fun b hb => kp.own b (by simp only [List.mem_append] at hb ⊢; rcases hb with z | z <;> simp [z]), kp.out, kp.tup, kp.frz, kp.fr⟩ q1
          rw [sv] at q2
          have q3 := Own.tup (kp.tup _ _ h) q2
          have e3 : A ++ ((F1 ++ (G' ++ F2)) ++ B) = A ++ F1 ++ (G' ++ (F2 ++ B)) := by simp
          rw [e3] at q3
          exact q3
    · rename_i c f ob c' fs
      split at e1
      rotate_left
      · cases e1
      rename_i ec
      subst ec
      have upd' : ∀ n', setS (.fd c f) n' (.obj ob c fs) = .obj ob c (putFD f n' fs) := fun n' => by
        show (if c = c then D.obj ob c (putFD f n' fs) else .obj ob c fs) = _
        rw [if_pos rfl]
      cases o with
      | objO h en hs =>
        rename_i a dx vs F0
        obtain ⟨j, p1, p2, p3⟩ := putFD_maps en e1
        obtain ⟨u1, G1, A, B, g1, g2, g3, g4⟩ := hs.zoom p1
        obtain ⟨u, G, F1, F2, k1, k2, k3, k4⟩ := own_path r g3 e2 hsh
        have sv : (vs.map (·.2)).set j u1 = vs.map (·.2) := set_self g1
        refine ⟨u, G, a :: (A ++ F1), F2 ++ B, ⟨u1, ⟨a, dx, vs, rfl, h, by rw [p2]; exact g1⟩, k1⟩, by rw [g2, k2]; simp, k3, fun W' H' n' G' kp o' => ?_⟩
        rw [up, upd']
        have q1 := k4 W' H' n' G' ⟨fun b hb => kp.own b (by simp only [List.mem_append, List.mem_cons] at hb ⊢; rcases hb with z | z <;> simp [z]), kp.out, kp.tup, kp.frz, kp.fr⟩ o'
        have q2 := g4 W' H' u1 _ _ ⟨fun b hb => kp.own b (by simp only [List.mem_append, List.mem_cons] at hb ⊢; rcases hb with z | z <;> simp [z]), kp.out, kp.tup, kp.frz, kp.fr⟩ q1
        rw [sv] at q2
        have p5 := (p3 (setP r n' d1)).1
        have ej := (p3 (setP r n' d1)).2.symm
        rw [ej] at q2
        have q3 := Own.objO (kp.own a (by simp) _ h) (en.trans p5.symm) q2
        have e3 : a :: (A ++ ((F1 ++ (G' ++ F2)) ++ B)) = a :: (A ++ F1) ++ (G' ++ (F2 ++ B)) := by simp
        rw [e3] at q3
        exact q3
      | objF h hn en hs =>
        rename_i a dx vs
        obtain ⟨j, p1, p2, p3⟩ := putFD_maps en e1
        obtain ⟨u1, G1, A, B, g1, g2, g3, g4⟩ := hs.zoom p1
        have z0 : A = [] ∧ G1 = [] ∧ B = [] := by
          have := g2.symm
          simpa using this
        obtain ⟨rfl, rfl, rfl⟩ := z0
        obtain ⟨u, G, F1, F2, k1, k2, k3, k4⟩ := own_path r g3 e2 hsh
        have z1 : F1 = [] ∧ G = [] ∧ F2 = [] := by
          have := k2.symm
          simpa using this
        have z2 := k3.sh' z1.2.1
        rw [hsh] at z2
        cases z2
    · rename_i y ob nn ds
      split at e1
      · cases e1
      rename_i hn1
      have upd' : ∀ n', setS (.ky y) n' (.dic ob nn ds) = .dic ob nn (setK y n' ds) := fun n' => rfl
      cases o with
      | dicO h en hs =>
        rename_i a kvs F0
        obtain ⟨j, kk, hy, p1, p2, p3⟩ := look_zoom keq_kD en e1
        obtain ⟨u1, G1, A, B, g1, g2, g3, g4⟩ := hs.zoom p1
        obtain ⟨u, G, F1, F2, k1, k2, k3, k4⟩ := own_path r g3 e2 hsh
        have sv : (kvs.map (·.2)).set j u1 = kvs.map (·.2) := set_self g1
        refine ⟨u, G, a :: (A ++ F1), F2 ++ B, ⟨u1, ⟨a, rfl, .inl ⟨kvs, kk, h, hy, by rw [p2]; exact g1⟩⟩, k1⟩, by rw [g2, k2]; simp, k3, fun W' H' n' G' kp o' => ?_⟩
        rw [up, upd']
        have q1 := k4 W' H' n' G' ⟨fun b hb => kp.own b (by simp only [List.mem_append, List.mem_cons] at hb ⊢; rcases hb with z | z <;> simp [z]), kp.out, kp.tup, kp.frz, kp.fr⟩ o'
        have q2 := g4 W' H' u1 _ _ ⟨fun b hb => kp.own b (by simp only [List.mem_append, List.mem_cons] at hb ⊢; rcases hb with z | z <;> simp [z]), kp.out, kp.tup, kp.frz, kp.fr⟩ q1
        rw [sv] at q2
        have p5 := (p3 (setP r n' d1)).1
        have ej := (p3 (setP r n' d1)).2.symm
        rw [ej] at q2
        have q3 := Own.dicO (kp.own a (by simp) _ h) (en.trans p5.symm) q2
        have e3 : a :: (A ++ ((F1 ++ (G' ++ F2)) ++ B)) = a :: (A ++ F1) ++ (G' ++ (F2 ++ B)) := by simp
        rw [e3] at q3
        exact q3
      | dicF h hn en hs =>
        rename_i a kvs
        obtain ⟨j, kk, hy, p1, p2, p3⟩ := look_zoom keq_kD en e1
        obtain ⟨u1, G1, A, B, g1, g2, g3, g4⟩ := hs.zoom p1
        have z0 : A = [] ∧ G1 = [] ∧ B = [] := by
          have := g2.symm
          simpa using this
        obtain ⟨rfl, rfl, rfl⟩ := z0
        obtain ⟨u, G, F1, F2, k1, k2, k3, k4⟩ := own_path r g3 e2 hsh
        have z1 : F1 = [] ∧ G = [] ∧ F2 = [] := by
          have := k2.symm
          simpa using this
        have z2 := k3.sh' z1.2.1
        rw [hsh] at z2
        cases z2
      | dtO h en hs => exact absurd rfl hn1
      | dtF h hn en hs => exact absurd rfl hn1
      | dnO h ok ks en hs =>
        rename_i a ob' kvs F0
        obtain ⟨j, kk, hy, p1, p2, p3⟩ := look_zoom (kvs := nv kvs) keq_nkD (by rw [nv_fst]; exact en) e1
        rw [nv_snd] at p2
        obtain ⟨u1, G1, A, B, g1, g2, g3, g4⟩ := hs.zoom p1
        obtain ⟨u, G, F1, F2, k1, k2, k3, k4⟩ := own_path r g3 e2 hsh
        have sv : (kvs.map (·.2.2)).set j u1 = kvs.map (·.2.2) := set_self g1
        refine ⟨u, G, a :: (A ++ F1), F2 ++ B, ⟨u1, ⟨a, rfl, .inr ⟨ob', kvs, kk, W, h, ok, by rw [en]; exact ks, hy, by rw [p2]; exact g1⟩⟩, k1⟩, by rw [g2, k2]; simp, k3, fun W' H' n' G' kp o' => ?_⟩
        rw [up, upd']
        have q1 := k4 W' H' n' G' ⟨fun b hb => kp.own b (by simp only [List.mem_append, List.mem_cons] at hb ⊢; rcases hb with z | z <;> simp [z]), kp.out, kp.tup, kp.frz, kp.fr⟩ o'
        have q2 := g4 W' H' u1 _ _ ⟨fun b hb => kp.own b (by simp only [List.mem_append, List.mem_cons] at hb ⊢; rcases hb with z | z <;> simp [z]), kp.out, kp.tup, kp.frz, kp.fr⟩ q1
        rw [sv] at q2
        have p5 := (p3 (setP r n' d1)).1
        have ej := (p3 (setP r n' d1)).2.symm
        rw [ej] at q2
        have ks' := ks.keep (W' := W') (H' := H') ⟨(fun _ ha => nomatch ha), kp.out, kp.tup, kp.frz, kp.fr⟩
        rw [← p5] at ks'
        have q3 := Own.dnO (kp.own a (by simp) _ h) ok ks' (en.trans p5.symm) q2
        have e3 : a :: (A ++ ((F1 ++ (G' ++ F2)) ++ B)) = a :: (A ++ F1) ++ (G' ++ (F2 ++ B)) := by simp
        rw [e3] at q3
        exact q3
      | dnF h hn ok ks en hs =>
        rename_i a ob' kvs
        obtain ⟨j, kk, hy, p1, p2, p3⟩ := look_zoom (kvs := nv kvs) keq_nkD (by rw [nv_fst]; exact en) e1
        obtain ⟨u1, G1, A, B, g1, g2, g3, g4⟩ := hs.zoom p1
        have z0 : A = [] ∧ G1 = [] ∧ B = [] := by
          have := g2.symm
          simpa using this
        obtain ⟨rfl, rfl, rfl⟩ := z0
        obtain ⟨u, G, F1, F2, k1, k2, k3, k4⟩ := own_path r g3 e2 hsh
        have z1 : F1 = [] ∧ G = [] ∧ F2 = [] := by
          have := k2.symm
          simpa using this
        have z2 := k3.sh' z1.2.1
        rw [hsh] at z2
        cases z2
    · cases e1
end
end Tg

namespace Tg
open PySem PySem.Spec L2
section
variable {K : PySem.W.Frag} {cl : Cl} {H H' : Hp}
theorem Nd1.mono (e : Same H H') {v u : V} {s : St1} (h : Nd1 K cl H v s u) : Nd1 K cl H' v s u := by
  cases s with
  | ix d =>
    cases d <;> first | (exact False.elim h) | skip
    obtain ⟨a, vs, rfl, h1, h2⟩ := h
    exact ⟨a, vs, rfl, h1.elim (fun z => .inl (e.seq z)) (fun z => .inr (sqtSame e z)), h2⟩
  | fd c f =>
    obtain ⟨a, dx, fs, rfl, h1, h2⟩ := h
    exact ⟨a, dx, fs, rfl, e _ _ h1, h2⟩
  | ky y =>
    obtain ⟨a, rfl, h⟩ := h
    rcases h with ⟨kvs, k, h1, h2⟩ | ⟨o, kvs, k, W, h1, h2, h3, h4⟩
    · exact ⟨a, rfl, .inl ⟨kvs, k, e _ _ h1, h2⟩⟩
    · exact ⟨a, rfl, .inr ⟨o, kvs, k, W, e _ _ h1, h2, h3.mono e, h4⟩⟩
theorem Nd.mono (e : Same H H') : ∀ {l : List St1} {v u : V}, Nd K cl H v l u → Nd K cl H' v l u
  | [], v, u, h => h
  | s :: r, v, u, ⟨w, h1, h2⟩ => ⟨w, h1.mono e, Nd.mono e h2⟩
theorem Nd.snoc : ∀ {l : List St1} {s : St1} {v u : V}, Nd K cl H v (l ++ [s]) u → ∃ w, Nd K cl H v l w ∧ Nd1 K cl H w s u
  | [], s, v, u, ⟨w, h1, h2⟩ => ⟨v, rfl, by
    have e : u = w := h2
    rw [e]; exact h1⟩
  | t :: r, s, v, u, ⟨w, h1, h2⟩ => by
    obtain ⟨w', h3, h4⟩ := Nd.snoc (l := r) h2
    exact ⟨w', ⟨w, h1, h3⟩, h4⟩
end
/-- a path as an expression -/
structure Pt (X : Cx) (cl : Cl) (e : Expr) (i : Nat) (p : EP1) : Prop where
  run : ∀ (W : List Addr) (env : Env) (l : List St1), p env = some l → ∀ (σ : St) (H : Hp), EV X.K cl W H σ env → VD W H → ∀ v u, σ[i]? = some (some v) → Nd X.K cl H v l u → ∀ Q : VK, (∀ H', Same H H' → Q u H') → wE X e σ H Q
section
variable {X : Cx} {cl : Cl} {io : List Nat} {a b c e tg : Expr} {f g h : EE} {pos : Pos} {i : Nat} {p : EP1} {t0 : TgT}
theorem pt_var (i : Nat) {x : Str} (hN : X.N[i]? = some x := by rfl) (hv : Vis X.env.scope x := by first | exact Or.inl rfl | exact Or.inr (Or.inl rfl) | exact Or.inr (Or.inr rfl)) (hd : (x == ("__debug__" : Str)) = false := by decide)
    (hcd : (x == ("__classdict__" : Str)) = false := by decide) : Pt X cl (.Name x pos) i qNil := ⟨fun W env l q σ H E V v u hσ hn Q k => by
  cases q
  have e : u = v := hn
  subst e
  exact wE.of (pe_var hN hv hd hcd) ⟨u, hσ, k H (Same.refl H)⟩⟩
theorem pt_ix (ha : Pt X cl a i p) (hb : Pk X cl b g) (hs : PlainIx b) : Pt X cl (.Subscript a b pos) i (qIx p g) := ⟨fun W env l q σ H E V v u hσ hn Q k => by
  unfold qIx at q
  obtain ⟨l0, d, e1, e2, q3⟩ := bind2 q
  cases q3
  obtain ⟨w, n1, n2⟩ := hn.snoc
  refine wE.of (pe_ix ix_seq pe_w pe_w hs) ?_
  refine ha.run W env l0 e1 σ H E V v w hσ n1 _ fun H1 s1 => ?_
  refine hb.run W env d e2 σ H1 (E.mono s1) (V.mono s1) _ fun z H2 G s2 o2 => ?_
  have n2' := n2.mono (s1.trans s2)
  cases d <;> first | (exact False.elim n2') | skip
  cases own_int o2
  obtain ⟨p', vs, rfl, h1, h2⟩ := n2'
  rcases h1 with h1 | h1
  · exact .inl ⟨p', vs, _, u, rfl, rfl, h1, h2, k H2 (s1.trans s2)⟩
  · exact .inr (.inl ⟨p', vs, _, u, rfl, rfl, h1, h2, k H2 (s1.trans s2)⟩)⟩
theorem pt_fd {cc : Nat} {fl : Str} (ha : Pt X cl a i p) (c : Cls X.K (cl cc)) (n : NoAttr X.K (cl cc) fl) (hb : attributeBase a fl X.env (eval a X.env) = eval a X.env := by rfl) : Pt X cl (.Attribute a fl pos) i (qFd p cc fl) := ⟨fun W env l q σ H E V v u hσ hn Q k => by
  unfold qFd at q
  obtain ⟨l0, e1, q3⟩ := bind1 q
  cases q3
  obtain ⟨w, n1, n2⟩ := hn.snoc
  refine wE.of (pe_fld pe_w hb) ?_
  refine ha.run W env l0 e1 σ H E V v w hσ n1 _ fun H1 s1 => ?_
  obtain ⟨p', dx, fs, rfl, h1, h2⟩ := n2.mono s1
  exact ⟨p', cl cc, dx, fs, u, rfl, h1, c, n, h2, k H1 s1⟩⟩
/-- a field looked at -/
theorem pk_fd {cc : Nat} {fl : Str} (ha : Pk X cl a f) (c : Cls X.K (cl cc)) (n : NoAttr X.K (cl cc) fl) (hb : attributeBase a fl X.env (eval a X.env) = eval a X.env := by rfl) : Pk X cl (.Attribute a fl pos) (eFd f cc fl) := ⟨fun W env d q σ H E V Q k => by
  unfold eFd at q
  obtain ⟨d0, e1, q1⟩ := bind1 q
  unfold getS at q1
  split at q1
  · rename_i h; cases h
  · rename_i h; cases h
  · rename_i c1 f1 o c2 fs h
    cases h
    split at q1
    · rename_i ec
      subst ec
      refine wE.of (pe_fld pe_w hb) ?_
      refine ha.run W env _ e1 σ H E V _ fun v H1 F s1 o1 => ?_
      cases o1 with
      | objO h en hs =>
        obtain ⟨j, p1, p2, _⟩ := putFD_maps en q1
        obtain ⟨u, G, g1, g2, _⟩ := hs.get p1
        exact ⟨_, cl _, _, _, u, rfl, h, c, n, by rw [p2]; exact g1, k u H1 G s1 g2⟩
      | objF h hn en hs =>
        obtain ⟨j, p1, p2, _⟩ := putFD_maps en q1
        obtain ⟨u, G, g1, g2, _⟩ := hs.get p1
        exact ⟨_, cl _, _, _, u, rfl, h, c, n, by rw [p2]; exact g1, k u H1 G s1 g2⟩
    · cases q1
  · rename_i h; cases h
  · cases q1⟩
/-! ### a node of one's own changed -/
/-- at a path of a slot, a thing of one's own -/
theorem ER.node {K : PySem.W.Frag} {R F : List Addr} {σ : St} {H : Hp} {env : Env} {l : List St1} {n : D} (E : ER K cl R F σ H env) (hg : getAt i l env = some n) (hs : n.sh = false) :
    ∃ v u G F1 F2, σ[i]? = some (some v) ∧ Nd K cl H v l u ∧ F = F1 ++ (G ++ F2) ∧ Own K cl (R ++ F) H u n G ∧
      ∀ (W' : List Addr) (H' : Hp) (n' : D) (G' : List Addr), Keep (R ++ F) W' (F1 ++ F2) H H' → Own K cl W' H' u n' G' → Sl K cl W' H' σ (setAt i l n' env) (F1 ++ (G' ++ F2)) := by
  unfold getAt at hg
  split at hg
  · cases hg
  · rename_i d hne hd
    obtain ⟨o1, G0, A, B, h1, h2, h3, h4⟩ := E.sl.zoom hd
    rcases h3 with ⟨z, _⟩ | ⟨v, rfl, ov⟩
    · exact absurd z hne
    · obtain ⟨u, G, F1, F2, k1, k2, k3, k4⟩ := own_path l ov hg hs
      refine ⟨v, u, G, A ++ F1, F2 ++ B, h1, k1, by rw [h2, k2]; simp, k3, fun W' H' n' G' kp o' => ?_⟩
      have q1 := k4 W' H' n' G' ⟨fun b hb => kp.own b (by simp only [List.mem_append] at hb ⊢; rcases hb with z | z <;> simp [z]), kp.out, kp.tup, kp.frz, kp.fr⟩ o'
      have q2 := h4 W' H' (some v) _ _ ⟨fun b hb => kp.own b (by simp only [List.mem_append] at hb ⊢; rcases hb with z | z <;> simp [z]), kp.out, kp.tup, kp.frz, kp.fr⟩ (.inr ⟨v, rfl, q1⟩)
      rw [set_self h1] at q2
      have e3 : A ++ ((F1 ++ (G' ++ F2)) ++ B) = A ++ F1 ++ (G' ++ (F2 ++ B)) := by simp
      rw [e3] at q2
      unfold setAt
      rw [hd]
      exact q2
  · cases hg
theorem nodup_mid {α : Type} {A B C G : List α} (h : (A ++ (B ++ C)).Nodup) (hG : G.Nodup) (hB : ∀ x ∈ G, x ∈ B ∨ (x ∉ A ∧ x ∉ C)) : (A ++ (G ++ C)).Nodup := by
  rw [List.nodup_append] at h ⊢
  obtain ⟨n1, n2, n3⟩ := h
  rw [List.nodup_append] at n2
  obtain ⟨n4, n5, n6⟩ := n2
  refine ⟨n1, List.nodup_append.mpr ⟨hG, n5, fun a ha b hb q => ?_⟩, fun a ha b hb q => ?_⟩
  · rcases hB a ha with z | z
    · exact n6 a z b hb q
    · exact z.2 (by rw [q]; exact hb)
  · rcases List.mem_append.mp hb with hb | hb
    · rcases hB b hb with z | z
      · exact n3 a ha b (List.mem_append_left _ z) q
      · exact z.1 (by rw [← q]; exact ha)
    · exact n3 a ha b (List.mem_append_right _ hb) q
/-- a list of one's own gets other items -/
theorem ER.setL {K : PySem.W.Frag} {R F : List Addr} {σ : St} {H : Hp} {env : Env} {l : List St1} {xs : List D} (E : ER K cl R F σ H env) (hg : getAt i l env = some (.lst true xs)) :
    ∃ v q vs Gx F1 F2, σ[i]? = some (some v) ∧ Nd K cl H v l (.ref q) ∧ F = F1 ++ ((q :: Gx) ++ F2) ∧ H q = some (.lst vs) ∧ Owns K cl (R ++ F) H vs xs Gx ∧
      ∀ (H2 : Hp) (vs' : List V) (xs' : List D) (Gn : List Addr), Same H H2 → Gn.Nodup → (∀ a ∈ Gn, a ∈ Gx ∨ H a = none) → Owns K cl (Gn ++ (R ++ F)) H2 vs' xs' Gn →
        ER K cl R (F1 ++ ((q :: Gn) ++ F2)) σ (upd H2 q (.lst vs')) (setAt i l (.lst true xs') env) ∧ Fr F H (F1 ++ ((q :: Gn) ++ F2)) (upd H2 q (.lst vs')) := by
  obtain ⟨v, u, G, F1, F2, h1, h2, h3, h4, h5⟩ := E.node hg rfl
  cases h4 with
  | lstO hq hs =>
    rename_i q vs Gx
    refine ⟨v, q, vs, Gx, F1, F2, h1, h2, h3, hq, hs, fun H2 vs' xs' Gn s2 nd sub o2 => ?_⟩
    have nF := E.nd
    rw [h3] at nF
    have qF : q ∈ F := by rw [h3]; simp
    have qGx : q ∉ Gx := by
      have := (List.nodup_append.mp nF).2.1
      have := (List.nodup_append.mp this).1
      exact (List.nodup_cons.mp this).1
    have qn : H q ≠ none := by rw [hq]; simp
    have qGn : q ∉ Gn := fun z => (sub q z).elim qGx fun e => qn e
    have qtup : ∀ b vs0, H2 b = some (.tup vs0) → b ≠ q := fun b vs0 e z => by rw [z, s2 q _ hq] at e; cases e
    have qfrz : ∀ b o u0, H2 b = some (.frz o u0) → b ≠ q := fun b o u0 e z => by rw [z, s2 q _ hq] at e; cases e
    have gnew : ∀ a ∈ Gn, a ∉ R ∧ a ∉ F1 ∧ a ∉ F2 := fun a ha => by
      rcases sub a ha with z | z
      · have aF : a ∈ F := by rw [h3]; simp [z]
        refine ⟨E.ap a aF, fun y => ?_, fun y => ?_⟩
        · exact (List.nodup_append.mp nF).2.2 a y a (by simp [z]) rfl
        · exact (List.nodup_append.mp (List.nodup_append.mp nF).2.1).2.2 a (by simp [z]) a y rfl
      · exact ⟨fun y => E.vd a y z, fun y => E.sl.tracked a (by rw [h3]; simp [y]) z, fun y => E.sl.tracked a (by rw [h3]; simp [y]) z⟩
    have other : ∀ b ∈ F1 ++ F2, b ≠ q := fun b hb z => by
      subst z
      rcases List.mem_append.mp hb with y | y
      · exact (List.nodup_append.mp nF).2.2 b y b (by simp) rfl
      · exact (List.nodup_append.mp (List.nodup_append.mp nF).2.1).2.2 b (by simp) b y rfl
    have kp : Keep (R ++ F) (R ++ (F1 ++ ((q :: Gn) ++ F2))) (F1 ++ F2) H (upd H2 q (.lst vs')) := by
      refine ⟨fun b hb o e => ?_, fun b o hb e => ?_, fun b vs0 e => ?_, fun b o u0 e => ?_, fun b hb hn z => ?_⟩
      · rw [upd_ne (other b hb)]; exact s2 b o e
      · rw [upd_ne (fun z => hb (by rw [z]; simp [qF]))]; exact s2 b o e
      · rw [upd_ne (qtup b vs0 (s2 _ _ e))]; exact s2 _ _ e
      · rw [upd_ne (qfrz b o u0 (s2 _ _ e))]; exact s2 _ _ e
      · rw [h3] at hb
        simp only [List.mem_append, List.mem_cons, not_or] at hb z
        rcases z with z | z | (z | z) | z
        · exact hb.1 z
        · exact hb.2.1 z
        · exact hb.2.2.1.1 z
        · exact (sub b z).elim hb.2.2.1.2 hn
        · exact hb.2.2.2 z
    have on : Owns K cl (R ++ (F1 ++ ((q :: Gn) ++ F2))) (upd H2 q (.lst vs')) vs' xs' Gn := by
      refine o2.keep ⟨fun b hb o e => ?_, fun b o hb e => ?_, fun b vs0 e => ?_, fun b o u0 e => ?_, fun b hb hn z => ?_⟩
      · rw [upd_ne (fun z => qGn (by rw [← z]; exact hb))]; exact e
      · rw [upd_ne (fun z => hb (by rw [z]; simp [qF]))]; exact e
      · rw [upd_ne (qtup b vs0 e)]; exact e
      · rw [upd_ne (qfrz b o u0 e)]; exact e
      · simp only [List.mem_append, List.mem_cons, not_or] at hb z
        rw [h3] at hb
        simp only [List.mem_append, List.mem_cons, not_or] at hb
        rcases z with z | z | (z | z) | z
        · exact hb.2.1 z
        · exact hb.2.2.1 z
        · exact hb.2.2.2.1.1 z
        · exact hb.1 z
        · exact hb.2.2.2.2 z
    refine ⟨⟨h5 _ _ _ _ kp (.lstO upd_same on), ?_, ?_, fun a ha e => ?_, fun p hp => tabs_upd (s2 q _ hq) lst_code _ _ (s2.tabs _ _ (E.tabs p hp))⟩, ⟨fun b o e hb => ?_, fun b vs0 e => ?_, fun b o u0 e => ?_, fun b e => ?_, fun b hb => ?_, fun P n t => tabs_upd (s2 q _ hq) lst_code _ _ (s2.tabs _ _ t)⟩⟩
    · refine nodup_mid nF (List.nodup_cons.mpr ⟨qGn, nd⟩) fun x hx => ?_
      rcases List.mem_cons.mp hx with z | z
      · exact .inl (by rw [z]; simp)
      · exact .inr ⟨(gnew x z).2.1, (gnew x z).2.2⟩
    · intro a ha
      simp only [List.mem_append, List.mem_cons] at ha
      rcases ha with z | (z | z) | z
      · exact E.ap a (by rw [h3]; simp [z])
      · exact E.ap a (by rw [z]; exact qF)
      · exact (gnew a z).1
      · exact E.ap a (by rw [h3]; simp [z])
    · have : a ≠ q := fun z => E.ap q qF (by rw [← z]; exact ha)
      rw [upd_ne this] at e
      exact E.vd a ha (Same.back s2 e)
    · rw [upd_ne (fun z => hb (by rw [z]; exact qF))]; exact s2 b o e
    · rw [upd_ne (qtup b vs0 (s2 _ _ e))]; exact s2 _ _ e
    · rw [upd_ne (qfrz b o u0 (s2 _ _ e))]; exact s2 _ _ e
    · by_cases z : b = q
      · rw [z, upd_same] at e; cases e
      · rw [upd_ne z] at e; exact Same.back s2 e
    · simp only [List.mem_append, List.mem_cons] at hb
      rcases hb with z | (z | z) | z
      · exact .inl (by rw [h3]; simp [z])
      · exact .inl (by rw [z]; exact qF)
      · exact (sub b z).elim (fun y => .inl (by rw [h3]; simp [y])) .inr
      · exact .inl (by rw [h3]; simp [z])
end
end Tg

namespace Tg
open PySem PySem.Spec L2
section
variable {X : Cx} {cl : Cl} {io : List Nat} {a b c e tg : Expr} {f g h : EE} {pos apos : Pos} {i : Nat} {p : EP1} {t0 : TgT}
/-- path.append(e) -/
theorem sm_app (ha : Pt X cl a i p) (he : Se X cl e f) {pos2 : Pos} (hs : swapsWith (.Call (.Attribute a "append" apos) [e] [] pos) none pos2.line X.env = pure false := by rfl)
    (hpe : ∀ {ta : TE} {t : TA}, PE X a ta → PA X [e] t → PE X (.Call (.Attribute a "append" apos) [e] [] pos) (tBM X.K "list" rAppend ta t) := by
      intro ta t h1 h2; exact pe_bm PySem.F.plainAttrs_list PySem.F.slot_list_append PySem.F.type_list_append mt_append h1 h2)
    (h1 : starEach [e] X.env = (false, eval e X.env) :: starEach [] X.env := by rfl) : Sm X cl io (.Expr (.Call (.Attribute a "append" apos) [e] [] pos) pos2) (sApp i p f) := ⟨fun R F env fl q σ H E D k => by
  unfold sApp at q
  obtain ⟨l, e1, q1⟩ := bind1 q
  split at q1
  · rename_i xs hg
    obtain ⟨y, e2, q2⟩ := bind1 q1
    split at q2
    · rename_i hz
      cases q2
      obtain ⟨v, q, vs, Gx, F1, F2, h2, h3, h4, h5, h6, h7⟩ := E.setL hg
      refine wS.of (ps_expr (hpe pe_w (pa_cons pe_w pa_nil h1)) hs) ?_
      refine ha.run _ env l e1 σ H E.ev E.vd' v _ h2 h3 _ fun H1 s1 => ?_
      refine ⟨.inl ⟨rfl, _, SqL.of (s1 _ _ h5)⟩, ?_⟩
      refine he.run _ env y e2 σ H1 (E.ev.mono s1) (E.vd'.mono s1) _ fun u H2 Gy s2 o2 n2 f2 => ?_
      have s := s1.trans s2
      refine ⟨q, vs, u, rfl, rfl, s _ _ h5, by rw [h6.length, ← line_eq]; exact hz, ?_⟩
      have gx : Gx.Nodup := by
        have := E.nd
        rw [h4] at this
        exact (List.nodup_cons.mp (List.nodup_append.mp (List.nodup_append.mp this).2.1).1).2
      have gsub : ∀ a ∈ Gx, a ∈ F := fun a ha => by rw [h4]; simp [ha]
      obtain ⟨er, fr⟩ := h7 H2 (vs ++ [u]) (xs ++ [y]) (Gx ++ (Gy ++ [])) s (by
        rw [List.append_nil, List.nodup_append]
        exact ⟨gx, n2, fun a ha b hb z => E.sl.tracked a (gsub a ha) (by rw [z]; exact Same.back s1 (f2 b hb))⟩)
        (fun a ha => by
          simp only [List.append_nil, List.mem_append] at ha
          exact ha.elim .inl fun z => .inr (Same.back s1 (f2 a z)))
        (Owns.append (h6.growS s fun a ha => by
          simp only [List.append_nil, List.mem_append] at ha ⊢
          rcases ha with (z | z) | z | z
          · exact .inl (.inr (gsub a z))
          · exact .inr (Same.back s1 (f2 a z))
          · exact .inl (.inl z)
          · exact .inl (.inr z)) (.cons (o2.weak fun a ha => by
            simp only [List.append_nil, List.mem_append] at ha ⊢
            rcases ha with (z | z) | z | z
            · exact .inr (.inr (gsub a z))
            · exact .inl z
            · exact .inr (.inl z)
            · exact .inr (.inr z)) .nil))
      exact k σ _ _ er fr Pin.refl
    · cases q2
  · cases q1⟩
/-- path[k] = e -/
theorem sm_put (he : Se X cl e f) (ha : Pt X cl a i p) (hb : Pk X cl b g) {spos : Pos} (hs : swapsWithSole [.Subscript a b pos] e spos.line X.env = pure false := by rfl) (hw : swappedStores [.Subscript a b pos] e X.env = pure none := by rfl)
    (h1 : (assignEach [.Subscript a b pos] X.env).map (·.2) = [assign (.Subscript a b pos) X.env] := by rfl)
    (hpg : ∀ {ta tb : TE}, PE X a ta → PE X b tb → PG X (.Subscript a b pos) (L2.gSub ta tb rSetL) := by intro ta tb h1 h2; exact pg_sub h1 h2 set_list) : Sm X cl io (.Assign [.Subscript a b pos] e spos) (sPut i p g f) := ⟨fun R F env fl q σ H E D k => by
  unfold sPut at q
  obtain ⟨y, e2, q0⟩ := bind1 q
  obtain ⟨l, e1, q1⟩ := bind1 q0
  split at q1
  · rename_i xs hg
    obtain ⟨d, e3, q2⟩ := bind1 q1
    split at q2
    · rename_i z
      split at q2
      · rename_i j hj
        cases q2
        obtain ⟨v, q, vs, Gx, F1, F2, h2, h3, h4, h5, h6, h7⟩ := E.setL hg
        refine wS.of (ps_asg pe_w (hpg pe_w pe_w) hs hw h1) ?_
        refine he.run _ env y e2 σ H E.ev E.vd' _ fun u H1 Gy s1 o1 n1 f1 => ?_
        refine ha.run _ env l e1 σ H1 (E.ev.mono s1) (E.vd'.mono s1) v _ h2 (h3.mono s1) _ fun H2 s2 => ?_
        refine hb.run _ env _ e3 σ H2 (E.ev.mono (s1.trans s2)) (E.vd'.mono (s1.trans s2)) _ fun w H3 G3 s3 o3 => ?_
        cases own_int o3
        have s := (s1.trans s2).trans s3
        have hlen : ixN vs.length z = some j := by rw [h6.length]; exact hj
        refine ⟨q, vs, z, j, rfl, rfl, s _ _ h5, hlen, ?_⟩
        have hjl : j < xs.length := by
          obtain ⟨_, h8, _, _⟩ := ixN_seq hlen
          rw [← h6.length]; exact h8
        obtain ⟨w0, G0, A, B, g1, g2, g3, g4⟩ := h6.zoom (List.getElem?_eq_getElem hjl)
        have gx : Gx.Nodup := by
          have := E.nd
          rw [h4] at this
          exact (List.nodup_cons.mp (List.nodup_append.mp (List.nodup_append.mp this).2.1).1).2
        have gsub : ∀ a ∈ Gx, a ∈ F := fun a ha => by rw [h4]; simp [ha]
        have ynew : ∀ a ∈ Gy, a ∉ F := fun a ha z => E.sl.tracked a z (f1 a ha)
        obtain ⟨er, fr⟩ := h7 H3 (vs.set j u) (xs.set j y) (A ++ (Gy ++ B)) s (by
          rw [g2] at gx
          exact nodup_mid gx n1 fun x hx => .inr ⟨fun z => ynew x hx (gsub x (by rw [g2]; simp [z])), fun z => ynew x hx (gsub x (by rw [g2]; simp [z]))⟩)
          (fun a ha => by
            simp only [List.mem_append] at ha
            rcases ha with z | z | z
            · exact .inl (by rw [g2]; simp [z])
            · exact .inr (f1 a z)
            · exact .inl (by rw [g2]; simp [z]))
          (g4 _ H3 u y Gy ⟨fun a ha o e => s a o e, fun a o _ e => s a o e, fun a vs0 e => s _ _ e, fun a o u0 e => s _ _ e, fun a ha hn z => by
              simp only [List.mem_append] at ha z
              rcases z with (z | z | z) | z
              · exact ha (.inr (gsub a (by rw [g2]; simp [z])))
              · exact hn (f1 a z)
              · exact ha (.inr (gsub a (by rw [g2]; simp [z])))
              · exact ha z⟩ ((o1.mono (s2.trans s3)).weak fun a ha => by
            simp only [List.mem_append] at ha ⊢
            rcases ha with (z | z | z) | z
            · exact .inr (.inr (gsub a (by rw [g2]; simp [z])))
            · exact .inl z
            · exact .inr (.inr (gsub a (by rw [g2]; simp [z])))
            · exact .inr z))
        exact k σ _ _ er fr Pin.refl
      · cases q2
    · cases q2
  · cases q1⟩
end
end Tg

namespace Tg
open PySem PySem.Spec L2
/-! ### calls: what one has oneself is lent -/
def frz (env : Env) : Env := env.map D.fz
theorem Own.nf0 {K : PySem.W.Frag} {cl : Cl} {W : List Addr} {H : Hp} : True := trivial
theorem fz_hole {d : D} (h : d.fz ≠ .hole) : d ≠ .hole := fun e => h (by rw [e]; rfl)
theorem EV.frz {K : PySem.W.Frag} {cl : Cl} {W : List Addr} {H : Hp} {σ : St} {env : Env} (e : EV K cl W H σ env) : EV K cl [] H σ (frz env) := ⟨by rw [e.len]; unfold Tg.frz; rw [List.length_map], fun i d h1 h2 => by
  unfold Tg.frz at h1
  rw [List.getElem?_map] at h1
  cases h : env[i]? with
  | none => rw [h] at h1; cases h1
  | some d0 =>
    rw [h] at h1
    cases h1
    obtain ⟨v, F, h3, h4⟩ := e.at_ i d0 h (fz_hole h2)
    exact ⟨v, [], h3, h4.fz [] (fun _ _ _ z => nomatch z) (fun _ _ z => nomatch z)⟩, e.tabs⟩
/-- what a called def is -/
structure CF (P : Program) (w : World) (K : PySem.W.Frag) (mg : Str → Option Value) (base : Heap) (cl : Cl) (k : Nat) (x : Str) (sem : List D → Option (D × List D)) (io : List Nat) (np : Nat) (dfl : List D) : Prop where
  ex : ∃ f0 fd ps dvs ds, FnOk P w K mg base CX0 k f0 fd ps (spF K cl np io sem) ∧ mg x = some (.ref f0) ∧ PySem.W.keepIn K (.ref f0) = true ∧ Binds K fd ps ds ∧ Vals dvs ds ∧ ∀ W H, Owns K cl W H dvs dfl []
  len : ∀ ds r, sem ds = some r → ds.length = np
/-- f(..) that changes nothing handed in: of things that may be shared; else one's own are lent, and nothing of them comes back -/
def eCallP (sem : List D → Option (D × List D)) (dfl : List D) (fs : EA) : EE := fun env => match fs env with
  | some ds => (sem (D.fzs ds ++ dfl)).map (·.1)
  | none => match fs (frz env) with
    | some ds => (sem (D.fzs ds ++ dfl)).bind fun r => if r.1.nf then some r.1 else none
    | none => none
section
variable {X : Cx} {cl : Cl} {a b c e : Expr} {f g h : EE} {pos : Pos}
theorem fins0 {K : PySem.W.Frag} {W : List Addr} {H : Hp} {vs : List V} {ds : List D} {F : List Addr} (h : Fins K cl W H vs [] ds F) : F = [] := by cases h; rfl
/-- the call itself, behind the arguments -/
theorem callP_run {k np : Nat} {x : Str} {sem : List D → Option (D × List D)} {dfl : List D} (C : CF X.prog X.w X.K X.mg X.base cl k x sem [] np dfl) {ta : TA → TE} {es : List Expr} {fs : EA} (ha : Sa X cl es fs)
    (hp : ∀ sp dvs, (∃ f0 fd ps ds, FnOk X.prog X.w X.K X.mg X.base CX0 k f0 fd ps sp ∧ X.mg x = some (.ref f0) ∧ PySem.W.keepIn X.K (.ref f0) = true ∧ Binds X.K fd ps ds ∧ Vals dvs ds) → PE X e (tCall sp dvs E0 (wA X es))) : Se X cl e (eCallP sem dfl fs) := ⟨fun W env d q σ H E V Q kq => by
  obtain ⟨f0, fd, ps, dvs, dsv, F, hm, hk, hb, hd, hdf⟩ := C.ex
  have hpe := hp _ dvs ⟨f0, fd, ps, dsv, F, hm, hk, hb, hd⟩
  refine wE.of hpe ?_
  unfold eCallP at q
  split at q
  · rename_i ds e1
    cases e2 : sem (D.fzs ds ++ dfl) with
    | none => rw [e2] at q; cases q
    | some rf =>
      rw [e2] at q
      cases q
      refine ha.run W env ds e1 σ H E V _ fun vs H1 G s1 o1 n1 f1 => ?_
      have o2 : Owns X.K cl (W ++ []) H1 (vs ++ dvs) (D.fzs ds ++ dfl) [] := by
        rw [List.append_nil]
        exact Owns.append (F := []) (G := []) (Owns.fz W o1 (fun a _ ha z => ha (List.mem_append_right _ z)) fun a ha z => V a z (f1 a ha)) (hdf W H1)
      refine ⟨by rw [o2.length, C.len _ _ e2], W, [], _, rf.1, rf.2, o2, List.nodup_nil, (fun _ z => nomatch z), V.mono s1, E.tabs.mono s1, e2, fun v H2 F' G' ow fi nd ap fr => ?_⟩
      cases fins0 fi
      have s2 : Same H1 H2 := fr.same0
      rw [List.append_nil] at nd ow
      exact kq v H2 G' (s1.trans s2) ow nd fun a ha => Same.back s1 ((fr.new a (by simpa using ha)).elim (fun z => nomatch z) id)
  · split at q
    · rename_i ds e1
      obtain ⟨rf, e2, q1⟩ := bind1 q
      split at q1
      · rename_i hnf
        cases q1
        refine ha.run [] (frz env) ds e1 σ H E.frz (fun _ z => nomatch z) _ fun vs H1 G s1 o1 n1 f1 => ?_
        have o2 : Owns X.K cl ([] ++ []) H1 (vs ++ dvs) (D.fzs ds ++ dfl) [] := Owns.append (F := []) (G := []) (Owns.fz [] o1 (fun a _ ha z => nomatch z) fun a ha z => nomatch z) (hdf [] H1)
        refine ⟨by rw [o2.length, C.len _ _ e2], [], [], _, rf.1, rf.2, o2, List.nodup_nil, (fun _ z => nomatch z), (fun _ z => nomatch z), E.tabs.mono s1, e2, fun v H2 F' G' ow fi nd ap fr => ?_⟩
        cases fins0 fi
        have s2 : Same H1 H2 := fr.same0
        rw [List.append_nil] at nd
        exact kq v H2 G' (s1.trans s2) (ow.nf _ hnf) nd fun a ha => Same.back s1 ((fr.new a (by simpa using ha)).elim (fun z => nomatch z) id)
      · cases q1
    · cases q⟩
theorem se_callP {k np : Nat} {x : Str} {sem : List D → Option (D × List D)} {dfl : List D} {p : Pos} {es : List Expr} {fs : EA}
    (C : CF X.prog X.w X.K X.mg X.base cl k x sem [] np dfl) (hr : Room k X.A) (hg : Gl X x) (ha : Sa X cl (e :: es) fs)
    (hdb : (x == ("__debug__" : Str)) = false := by decide) (he : starEach (e :: es) X.env = (false, eval e X.env) :: starEach es X.env := by rfl) (hpl : (backTo pos (starEach es X.env)).any (·.1) = false := by rfl) :
    Se X cl (.Call (.Name x p) (e :: es) [] pos) (eCallP sem dfl fs) := callP_run (ta := fun _ => tC .non) C ha fun sp dvs h => by
  obtain ⟨f0, fd, ps, dsv, F, hm, hk, hb, hd⟩ := h
  exact pe_call F hr hg hm hk hb hd pass0 pa_w hdb he hpl
/-! ### isinstance -/
def tyS : Ty → String
  | .int => "int" | .bool => "bool" | .tuple => "tuple" | .list => "list" | .str => "str" | .dict => "dict"
theorem own_ty {K : PySem.W.Frag} {W : List Addr} {H : Hp} {v : V} {d : D} {F : List Addr} {t : Ty} {r : Bool} (o : Own K cl W H v d F) (h : isI t d = some r) : ∃ tv, TyX K H v tv ∧ PySem.W.kitOne K tv (.type (tyS t)) = some r := by
  cases o with
  | non => cases t <;> cases h <;> exact ⟨_, .base .non, kit_ty (by decide +kernel)⟩
  | bl b => cases t <;> cases h <;> exact ⟨_, .base (.bl b), kit_ty (by decide +kernel)⟩
  | int i => cases t <;> cases h <;> exact ⟨_, .base (.int i), kit_ty (by decide +kernel)⟩
  | str x => cases t <;> cases h <;> exact ⟨_, .base (.str _), kit_ty (by decide +kernel)⟩
  | tup hq hs => cases t <;> cases h <;> exact ⟨_, .base (.tup hq), kit_ty (by decide +kernel)⟩
  | lstO hq hs => cases t <;> cases h <;> exact ⟨_, .base (.lst hq), kit_ty (by decide +kernel)⟩
  | lstF hq hn hs => cases t <;> cases h <;> exact ⟨_, .base (.lst hq), kit_ty (by decide +kernel)⟩
  | scr hq hn => cases t <;> cases h
  | scrK hq => cases t <;> cases h
  | dicO hq he hs => cases t <;> cases h <;> exact ⟨_, .base (.dK hq), kit_ty (by decide +kernel)⟩
  | dicF hq hn he hs => cases t <;> cases h <;> exact ⟨_, .base (.dK hq), kit_ty (by decide +kernel)⟩
  | dtO hq he hs => cases t <;> cases h <;> exact ⟨_, .base (.dT hq), kit_ty (by decide +kernel)⟩
  | dtF hq hn he hs => cases t <;> cases h <;> exact ⟨_, .base (.dT hq), kit_ty (by decide +kernel)⟩
  | dnO hq ok ks he hs => cases t <;> cases h
  | dnF hq hn ok ks he hs => cases t <;> cases h
  | objO hq he hs => cases t <;> cases h
  | objF hq hn he hs => cases t <;> cases h
  | hole v => cases t <;> cases h
end
end Tg

namespace Tg
open PySem PySem.Spec L2
/-! ### isinstance, sums -/
section
variable {X : Cx} {cl : Cl} {a b c e : Expr} {f g h : EE} {pos : Pos}
theorem se_isi {t : Ty} {x : Str} {p q : Pos} (ha : Pk X cl a f) (hg : Gl X "isinstance") (hm : X.mg "isinstance" = none) (hg2 : Gl X x) (hm2 : X.mg x = none) (hv2 : bootBuiltins x = some (.type (tyS t)))
    (hn2 : x ≠ "__name__" := by decide) (hd2 : (x == ("__debug__" : Str)) = false := by decide)
    (h1 : starEach [a, .Name x q] X.env = (false, eval a X.env) :: starEach [.Name x q] X.env := by rfl) (h2 : starEach [.Name x q] X.env = (false, eval (.Name x q) X.env) :: starEach [] X.env := by rfl)
    (hpl : (backTo pos (starEach [.Name x q] X.env)).any (·.1) = false := by rfl) : Se X cl (.Call (.Name "isinstance" p) [a, .Name x q] [] pos) (eInst t f) := ⟨fun W env d q σ H E V Q k => by
  unfold eInst at q
  obtain ⟨dx, e1, q1⟩ := bind1 q
  obtain ⟨r, e2, rfl⟩ := map_bl q1
  refine wE.of (pe_callB call_isi hg hm (by decide +kernel) (pa_cons pe_w (pa_cons (pe_bltn (v := .ty (tyS t)) hg2 hm2 hv2 rfl hn2 hd2) pa_nil h2) h1) (by decide) (by decide) h1 hpl) ?_
  refine ha.run W env dx e1 σ H E V _ fun v H1 F s1 o1 => ?_
  obtain ⟨tv, h3, h4⟩ := own_ty o1 e2
  exact ⟨v, .ty (tyS t), tv, .type (tyS t), r, rfl, .ty _, h3, h4, k _ H1 [] s1 (.bl r) List.nodup_nil (fun _ z => nomatch z)⟩⟩
theorem own_intsV {K : PySem.W.Frag} {W : List Addr} {H : Hp} : ∀ {vs : List V} {ns : List Int} {F : List Addr}, Owns K cl W H vs (ns.map D.int) F → vs = ns.map V.int
  | _, [], _, .nil => rfl
  | _, n :: ns, _, .cons o os => by
    cases own_int o
    rw [own_intsV os]
    rfl
theorem own_blsV {K : PySem.W.Frag} {W : List Addr} {H : Hp} : ∀ {vs : List V} {ns : List Bool} {F : List Addr}, Owns K cl W H vs (ns.map D.bl) F → vs = ns.map V.bl
  | _, [], _, .nil => rfl
  | _, n :: ns, _, .cons o os => by
    cases own_bl o
    rw [own_blsV os]
    rfl
end
/-! what sum, any, all ask -/
def intsD : List D → Option (List Int)
  | [] => some []
  | .int i :: r => (intsD r).map fun l => i :: l
  | _ => none
def blsD : List D → Option (List Bool)
  | [] => some []
  | .bl i :: r => (blsD r).map fun l => i :: l
  | _ => none
theorem intsD_eq : ∀ {ds : List D} {ns : List Int}, intsD ds = some ns → ds = ns.map .int
  | [], _, h => by cases h; rfl
  | d :: r, ns, h => by
    cases d <;> first | (cases h; done) | skip
    unfold intsD at h
    cases e : intsD r with
    | none => rw [e] at h; cases h
    | some l =>
      rw [e] at h
      cases h
      rw [intsD_eq e]
      rfl
theorem blsD_eq : ∀ {ds : List D} {ns : List Bool}, blsD ds = some ns → ds = ns.map .bl
  | [], _, h => by cases h; rfl
  | d :: r, ns, h => by
    cases d <;> first | (cases h; done) | skip
    unfold blsD at h
    cases e : blsD r with
    | none => rw [e] at h; cases h
    | some l =>
      rw [e] at h
      cases h
      rw [blsD_eq e]
      rfl
theorem intsD_map (ns : List Int) : intsD (ns.map .int) = some ns := by
  induction ns with
  | nil => rfl
  | cons n r ih => show (intsD (r.map .int)).map _ = _; rw [ih]; rfl
theorem blsD_map (ns : List Bool) : blsD (ns.map .bl) = some ns := by
  induction ns with
  | nil => rfl
  | cons n r ih => show (blsD (r.map .bl)).map _ = _; rw [ih]; rfl
def gSum : D → Option D
  | .lst _ xs => (intsD xs).map fun l => .int l.sum
  | _ => none
def gAny : D → Option D
  | .lst _ xs => (blsD xs).map fun l => .bl (l.any id)
  | _ => none
def gAll : D → Option D
  | .lst _ xs => (blsD xs).map fun l => .bl (l.all id)
  | _ => none
section
variable {X : Cx} {cl : Cl}
theorem gf_sum (hc : X.calm = true) : GF X cl (.builtin "sum") gSum := ⟨fun dx d q => by
  refine ⟨_, cr_sum hc, fun W H x Fx V o Q k => ?_⟩
  unfold gSum at q
  split at q
  · rename_i xs
    cases e : intsD xs with
    | none => rw [e] at q; cases q
    | some l =>
      rw [e] at q
      cases q
      obtain ⟨p, vs, G, rfl, hp, hs, _⟩ := own_lst o
      rw [intsD_eq e] at hs
      cases own_intsV hs
      exact ⟨p, l, rfl, SqL.of hp, k.int⟩
  · cases q⟩
theorem gf_any (hc : X.calm = true) : GF X cl (.builtin "any") gAny := ⟨fun dx d q => by
  refine ⟨_, cr_any hc, fun W H x Fx V o Q k => ?_⟩
  unfold gAny at q
  split at q
  · rename_i xs
    cases e : blsD xs with
    | none => rw [e] at q; cases q
    | some l =>
      rw [e] at q
      cases q
      obtain ⟨p, vs, G, rfl, hp, hs, _⟩ := own_lst o
      rw [blsD_eq e] at hs
      cases own_blsV hs
      exact ⟨p, l, rfl, SqL.of hp, k.bl⟩
  · cases q⟩
theorem gf_all (hc : X.calm = true) : GF X cl (.builtin "all") gAll := ⟨fun dx d q => by
  refine ⟨_, cr_all hc, fun W H x Fx V o Q k => ?_⟩
  unfold gAll at q
  split at q
  · rename_i xs
    cases e : blsD xs with
    | none => rw [e] at q; cases q
    | some l =>
      rw [e] at q
      cases q
      obtain ⟨p, vs, G, rfl, hp, hs, _⟩ := own_lst o
      rw [blsD_eq e] at hs
      cases own_blsV hs
      exact ⟨p, l, rfl, SqL.of hp, k.bl⟩
  · cases q⟩
end
/-! ### things of one's own lent within an expression -/
def eLent (f : EE) : EE := fun env => match f env with
  | some d => some d
  | none => (f (frz env)).bind fun d => if d.nf then some d else none
theorem se_lent {X : Cx} {cl : Cl} {e : Expr} {f : EE} (h : Se X cl e f) : Se X cl e (eLent f) := ⟨fun W env d q σ H E V Q k => by
  unfold eLent at q
  split at q
  · rename_i d' e1
    cases q
    exact h.run W env _ e1 σ H E V Q k
  · obtain ⟨d', e1, q1⟩ := bind1 q
    split at q1
    · rename_i hn
      cases q1
      refine h.run [] (frz env) _ e1 σ H E.frz (fun _ z => nomatch z) Q fun v H' F s o nd f => k v H' F s (o.nf _ hn) nd f
    · cases q1⟩
/-! ### comprehensions -/
structure Tc (X : Cx) (cl : Cl) (vs : List Nat) (tg : Expr) (t : TgT) : Prop where
  run : ∀ (W : List Addr) (env env' : Env) (d : D), t d env = some env' → ∀ (σ : St) (H : Hp) (v : V), EV X.K cl W H σ env → Own X.K cl W H v d [] → ∀ Q : St → Hp → Prop,
    (∀ σ', EV X.K cl W H σ' env' → wipe σ' vs = wipe σ vs → Q σ' H) → wG X tg v σ H Q
structure Tcs (X : Cx) (cl : Cl) (vs : List Nat) (tgs' : List Expr) (ts : List TgT) : Prop where
  run : ∀ (W : List Addr) (env env' : Env) (ds : List D), tgs ts ds env = some env' → ∀ (σ : St) (H : Hp) (us : List V), EV X.K cl W H σ env → Owns X.K cl W H us ds [] → ∀ Q : St → Hp → Prop,
    (∀ σ', EV X.K cl W H σ' env' → wipe σ' vs = wipe σ vs → Q σ' H) → ∃ t, PGs X tgs' t ∧ t us σ H Q
theorem wipe_set {σ : St} {i : Nat} {o : Option V} : ∀ {vs : List Nat}, i ∈ vs → wipe (σ.set i o) vs = wipe σ vs
  | [], h => nomatch h
  | v :: vs, h => by
    unfold wipe
    by_cases hv : i ∈ vs
    · rw [wipe_set hv]
    · have e : v = i := by
        rcases List.mem_cons.mp h with z | z
        · exact z.symm
        · exact absurd z hv
      subst e
      clear h
      have aux : ∀ (vs : List Nat), v ∉ vs → wipe (σ.set v o) vs = (wipe σ vs).set v o := fun vs => by
        induction vs with
        | nil => intro _; rfl
        | cons u us ih =>
          intro hu
          unfold wipe
          rw [ih fun z => hu (List.mem_cons_of_mem _ z), List.set_comm]
          exact fun z => hu (by rw [z]; exact List.mem_cons_self)
      rw [aux vs hv, List.set_set]
section
variable {X : Cx} {cl : Cl} {a b c e : Expr} {f g h : EE} {pos : Pos} {vs : List Nat}
theorem tc_name (i : Nat) {x : Str} (nd : X.N.Nodup) (hi : X.N[i]? = some x := by rfl) (hx : Loc X.env.scope x := by first | exact Or.inl rfl | exact Or.inr rfl) (hf : X.fn x = true ∨ X.env.scope.names.lookup x = some .local := by first | exact .inl rfl | exact .inr rfl | assumption) (hio : i ∈ vs := by decide) : Tc X cl vs (.Name x pos) (tgN i) := ⟨fun W env env' d q σ H v E o Q k => by
  unfold tgN at q
  split at q
  · cases q
    exact wG.of (pg_name nd hi hx hf) (k _ (E.set i o) (wipe_set hio))
  · cases q⟩
theorem tcs_nil : Tcs X cl vs [] [] := ⟨fun W env env' ds q σ H us E o Q k => by
  cases ds with
  | nil =>
    cases q
    cases o
    exact ⟨_, pgs_nil, rfl, k σ E rfl⟩
  | cons _ _ => cases q⟩
theorem app_nil2 {α : Type} {F G : List α} (h : F ++ G = []) : F = [] ∧ G = [] := List.append_eq_nil_iff.mp h
theorem owns_cons0 {K : PySem.W.Frag} {W : List Addr} {H : Hp} {us : List V} {d : D} {ds : List D} (o : Owns K cl W H us (d :: ds) []) : ∃ v r, us = v :: r ∧ Own K cl W H v d [] ∧ Owns K cl W H r ds [] := by
  generalize hF : ([] : List Addr) = F at o
  cases o with
  | cons o os =>
    obtain ⟨rfl, rfl⟩ := app_nil2 hF.symm
    exact ⟨_, _, rfl, o, os⟩
theorem tcs_cons {tg : Expr} {es : List Expr} {t0 : TgT} {ts : List TgT} (h1 : Tc X cl vs tg t0) (h2 : Tcs X cl vs es ts) (hs : (assignEach (tg :: es) X.env).map (·.2) = assign tg X.env :: (assignEach es X.env).map (·.2) := by rfl) : Tcs X cl vs (tg :: es) (t0 :: ts) := ⟨fun W env env' ds q σ H us E o Q k => by
  cases ds with
  | nil => cases q
  | cons d ds =>
    obtain ⟨v, r, rfl, o1, o2⟩ := owns_cons0 o
    have q' : (t0 d env).bind (tgs ts ds) = some env' := q
    obtain ⟨env1, e1, e2⟩ := bind1 q'
    refine ⟨_, pgs_cons pg_w pgs_w hs, v, r, rfl, ?_⟩
    refine h1.run W env env1 d e1 σ H v E o1 _ fun σ1 E1 w1 => ?_
    obtain ⟨t, ht, qt⟩ := h2.run W env1 env' ds e2 σ1 H r E1 o2 Q fun σ2 E2 w2 => k σ2 E2 (w2.trans w1)
    exact wGs.of ht qt⟩
theorem tc_tup {es : List Expr} {k0 : Nat} {ts : List TgT} {n : Nat} (h : Tcs X cl vs es ts) (hc : X.calm = true := by rfl) (hn : (assignEach es X.env).length = n := by rfl) (hst : (assignEach es X.env).findIdx? (·.1) = none := by rfl) (hl : ts.length = n := by rfl) : Tc X cl vs (.Tuple es k0 pos) (tgU ts) := ⟨fun W env env' d q σ H v E o Q k => by
  unfold tgU at q
  split at q
  · rename_i xs
    obtain ⟨p, us, rfl, hp, hs⟩ := own_tup o
    refine wG.of (pg_tup hc pgs_w hn hst) ⟨p, us, rfl, hp, ?_, ?_⟩
    · rw [hs.length, ← hl]
      exact tgs_len q
    · obtain ⟨t, ht, qt⟩ := h.run W env env' xs q σ H us E hs Q k
      exact wGs.of ht qt
  · cases q⟩
end
/-- the comprehension's own names are open at each turn's begin -/
def wipD (env : Env) : List Nat → Env
  | [] => env
  | v :: vs => (wipD env vs).set v .hole
def eCompW (vs : List Nat) (it : It) (tg : TgT) (c e : EE) : EE := fun env => (it env).bind fun xs => if xs.length < line then (compL tg c e (wipD env vs) xs).map (.lst true) else none
def cYes : EE := fun _ => some (.bl true)
theorem EV.wipe {K : PySem.W.Frag} {cl : Cl} {W : List Addr} {H : Hp} {σ : St} {env : Env} (E : EV K cl W H σ env) : ∀ vs : List Nat, EV K cl W H (wipe σ vs) (wipD env vs)
  | [] => E
  | v :: vs => by
    have ih := EV.wipe E vs
    unfold L2.wipe wipD
    refine ⟨by rw [List.length_set, List.length_set]; exact ih.len, fun i d h1 h2 => ?_, ih.tabs⟩
    by_cases hi : v = i
    · subst hi
      have hl : v < (wipD env vs).length := by
        have := (List.getElem?_eq_some_iff.mp h1).1
        rwa [List.length_set] at this
      rw [List.getElem?_set_self hl] at h1
      cases h1
      exact absurd rfl h2
    · rw [List.getElem?_set_ne hi] at h1
      obtain ⟨u, G, h3, h4⟩ := ih.at_ i d h1 h2
      exact ⟨u, G, by rw [List.getElem?_set_ne hi]; exact h3, h4⟩
theorem compL_len {tg : TgT} {c e : EE} {env : Env} : ∀ {xs ds : List D}, compL tg c e env xs = some ds → ds.length ≤ xs.length
  | [], ds, h => by cases h; exact Nat.le_refl _
  | x :: xs, ds, h => by
    unfold compL at h
    obtain ⟨env', _, h⟩ := bind1 h
    split at h
    · obtain ⟨d, _, h⟩ := bind1 h
      cases q : compL tg c e env xs with
      | none => rw [q] at h; cases h
      | some r =>
        rw [q] at h
        cases h
        exact Nat.succ_le_succ (compL_len q)
    · exact Nat.le_succ_of_le (compL_len h)
    · cases h
/-- the tests of a comprehension -/
structure Tq (X : Cx) (cl : Cl) (ifs : List Expr) (f : EE) : Prop where
  run : ∃ tt : TT, PTs X ifs tt ∧ ∀ (W : List Addr) (env : Env) (b : Bool), f env = some (.bl b) → ∀ (σ : St) (H : Hp), EV X.K cl W H σ env → VD W H → ∀ Q : Bool → Hp → Prop, (∀ H', Same H H' → Q b H') → tt σ H Q
theorem tq_nil {X : Cx} {cl : Cl} : Tq X cl [] cYes := ⟨tYes, pts_nil, fun W env b q σ H E V Q k => by
  cases q
  exact k H (Same.refl H)⟩
theorem tq_one {X : Cx} {cl : Cl} {c : Expr} {f : EE} (h : Te X cl c f) : Tq X cl [c] f := ⟨wT X c, pts_one pt_w, fun W env b q σ H E V Q k => h.run W env b q σ H E V Q k⟩
def wQs (X : Cx) (ifs : List Expr) : TT := fun σ H Q => ∀ (pins : List (Addr × Obj)) (s : Shared), Inv X pins σ H s →
    wpAny (model X.prog X.w) X.A (forIn ifs true fun c r => if r = true then do let ok ← isTrue c X.env (eval c X.env); pure (ForInStep.yield ok) else pure (ForInStep.yield r)) (TP X pins σ Q) X.xe s
theorem pts_w {X : Cx} {ifs : List Expr} : PTs X ifs (wQs X ifs) := ⟨fun pins s σ H Q I h => h pins s I⟩
end Tg

namespace Tg
open PySem PySem.Spec L2
theorem frsh {H H1 : Hp} {L : Addr} {F W : List Addr} (hD : H1 L = none) (hF : ∀ a ∈ F, H1 a = none) : ∀ a, a ∉ W → H1 a ≠ none → a ∉ (L :: F) ++ W := fun a ha hn z => by
  rcases List.mem_append.mp z with z | z
  · rcases List.mem_cons.mp z with e | z
    · exact hn (by rw [e]; exact hD)
    · exact hn (hF a z)
  · exact ha z
/-- what stands while the list at D is made -/
structure CompI (K : PySem.W.Frag) (cl : Cl) (W : List Addr) (L : Addr) (H1 H : Hp) (acc : List V) (ds : List D) (F : List Addr) : Prop where
  same : Same H1 H
  at_ : H L = some (.lst acc)
  own : Owns K cl ((L :: F) ++ W) H acc ds F
  nd : (L :: F).Nodup
  new : ∀ a ∈ F, H1 a = none
theorem wipe_sub {σ : St} {vs : List Nat} : ∀ us : List Nat, (∀ u ∈ us, u ∈ vs) → wipe (wipe σ us) vs = wipe σ vs
  | [], _ => rfl
  | u :: us, h => by
    show wipe ((wipe σ us).set u none) vs = _
    rw [wipe_set (h u List.mem_cons_self), wipe_sub us fun a ha => h a (List.mem_cons_of_mem _ ha)]
def wGa (X : Cx) (scope : Scope) (tg : Expr) : TG := fun v σ H Q => ∀ (s : Shared) (H0 : Hp) (C : Addr) (cs : List (Str × Addr)) (fp : List Addr), wG (X.blk s H0 scope (compEnvC scope cs C X.env) fp) tg v σ H Q
def wQa (X : Cx) (scope : Scope) (ifs : List Expr) : TT := fun σ H Q => ∀ (s : Shared) (H0 : Hp) (C : Addr) (cs : List (Str × Addr)) (fp : List Addr), wQs (X.blk s H0 scope (compEnvC scope cs C X.env) fp) ifs σ H Q
def wEa (X : Cx) (scope : Scope) (elt : Expr) : TE := fun σ H Q => ∀ (s : Shared) (H0 : Hp) (C : Addr) (cs : List (Str × Addr)) (fp : List Addr), wE (X.blk s H0 scope (compEnvC scope cs C X.env) fp) elt σ H Q
/-- a comprehension, ready to be used -/
structure Lc (X : Cx) (cl : Cl) (elt tg iter : Expr) (ifs : List Expr) (scope : Scope) (vs : List Nat) (f : EE) : Prop where
  run : ∀ (W : List Addr) (env : Env) (d : D), f env = some d → ∀ (σ : St) (H : Hp), EV X.K cl W H σ env → VD W H → ∀ Q : VK,
    (∀ v H' F, Same H H' → Own X.K cl (F ++ W) H' v d F → F.Nodup → (∀ a ∈ F, H a = none) → Q v H') → ∃ wi : TI, PI X tg iter wi ∧ tLc wi (wGa X scope tg) (wQa X scope ifs) (wEa X scope elt) vs σ H Q
theorem lc_compW {X : Cx} {cl : Cl} {elt tg iter : Expr} {ifs : List Expr} {scope : Scope} {own : List (Str × Nat)} {it : It} {t : TgT} {c e : EE} (hi : Ii X cl tg iter it)
    (hg : ∀ (s : Shared) (H : Hp) (C : Addr) (cs : List (Str × Addr)) (fp : List Addr), Tc (X.blk s H scope (compEnvC scope cs C X.env) fp) cl (own.map (·.2)) tg t)
    (ht : ∀ (s : Shared) (H : Hp) (C : Addr) (cs : List (Str × Addr)) (fp : List Addr), Tq (X.blk s H scope (compEnvC scope cs C X.env) fp) cl ifs c)
    (he : ∀ (s : Shared) (H : Hp) (C : Addr) (cs : List (Str × Addr)) (fp : List Addr), Se (X.blk s H scope (compEnvC scope cs C X.env) fp) cl elt e) :
    Lc X cl elt tg iter ifs scope (own.map (·.2)) (eCompW (own.map (·.2)) it t c e) := ⟨fun W env d q σ H E V Q k => by
  unfold eCompW at q
  obtain ⟨xs, e1, q1⟩ := bind1 q
  split at q1
  rotate_left
  · cases q1
  rename_i hlen
  cases e2 : compL t c e (wipD env (own.map (·.2))) xs with
  | none => rw [e2] at q1; cases q1
  | some total =>
    rw [e2] at q1
    cases q1
    obtain ⟨wi, hw, run⟩ := hi.run W env xs e1 σ H E V
    refine ⟨wi, hw, ?_⟩
    refine run _ fun J H1 G Y s1 wk hG hY => ?_
    intro L hD
    have VD1 : VD W H1 := V.mono s1
    refine lc_it wk (g := wGa X scope tg) (tt := wQa X scope ifs) (te := wEa X scope elt) (Qd := Q (.ref L)) (fun i H' => ∃ acc ds F rest, CompI X.K cl W L H1 H' acc ds F ∧ compL t c e (wipD env (own.map (·.2))) (xs.drop i) = some rest ∧ ds ++ rest = total) ?_ ?_ ?_ ?_
    · exact ⟨[], [], [], total, ⟨same_new hD, upd_same, .nil, by simp, fun _ z => nomatch z⟩, e2, rfl⟩
    · rintro i H' _ ⟨acc, ds, F, rest, I, _, _⟩
      exact hG ((L :: F) ++ W) H' ⟨(fun _ z => nomatch z), fun a o _ h => I.same a o h, fun a vs h => I.same a _ h, fun a o u h => I.same a _ h, frsh (H := H1) hD I.new⟩
    · rintro i x H2 H3 hi' ⟨acc, ds, F, rest, I, e3, e4⟩ y
      have hd : xs[i]? = some xs[i] := List.getElem?_eq_getElem hi'
      have kp : Keep W ((L :: F) ++ W) [] H1 H2 := ⟨(fun _ z => nomatch z), fun a o _ h => I.same a o h, fun a vs h => I.same a _ h, fun a o u h => I.same a _ h, frsh (H := H1) hD I.new⟩
      obtain ⟨s3, ox⟩ := hY i x H2 H3 ((L :: F) ++ W) xs[i] kp y hd
      rw [List.drop_eq_getElem_cons hi'] at e3
      unfold compL at e3
      obtain ⟨env1, t1, e3⟩ := bind1 e3
      have E1 : EV X.K cl ((L :: F) ++ W) H3 (wipe σ (own.map (·.2))) (wipD env (own.map (·.2))) := by
        have E0 := E.mono (s1.trans (I.same.trans s3))
        refine (EV.wipe ?_ _)
        refine ⟨E.len, fun j d h1 h2 => ?_, E.tabs.mono (s1.trans (I.same.trans s3))⟩
        obtain ⟨v, Fv, h3, h4⟩ := E.at_ j d h1 h2
        refine ⟨v, Fv, h3, ((h4.mono s1).keep (Keep.re (K := X.K) (frsh (H := H1) hD I.new))).mono (I.same.trans s3)⟩
      have V1 : VD ((L :: F) ++ W) H3 := fun a ha => by
        rcases List.mem_append.mp ha with z | z
        · rcases List.mem_cons.mp z with z | z
          · rw [z, s3 _ _ I.at_]; simp
          · intro n
            exact I.own.tracked a z (Same.back s3 n)
        · exact (VD1.mono (I.same.trans s3)) a z
      intro s0 H0 C cs fp
      refine (hg s0 H0 C cs fp).run ((L :: F) ++ W) _ env1 xs[i] t1 _ H3 x E1 ox _ fun σ2 E2 w2 => ⟨w2.trans (wipe_sub _ fun _ h => h), ?_⟩
      intro s0 H0 C cs fp
      obtain ⟨tt, ptt, rt⟩ := (ht s0 H0 C cs fp).run
      cases ec : c env1 with
      | none => rw [ec] at e3; cases e3
      | some db =>
        cases db <;> first | (rw [ec] at e3; cases e3; done) | skip
        rename_i b
        have toQ : ∀ {Qb : Bool → Hp → Prop}, (∀ H', Same H3 H' → Qb b H') → wQs (X.blk s0 H0 scope (compEnvC scope cs C X.env) fp) ifs σ2 H3 Qb := fun {Qb} hq pins s' I' => ptt.run pins s' σ2 H3 Qb I' (rt _ env1 b ec σ2 H3 E2 V1 Qb hq)
        refine toQ fun H4 s4 => ?_
        rw [ec] at e3
        cases b with
        | false =>
          rw [if_neg Bool.false_ne_true]
          have e3' : compL t c e (wipD env (own.map (·.2))) (xs.drop (i + 1)) = some rest := e3
          exact ⟨acc, ds, F, rest, ⟨I.same.trans (s3.trans s4), s4 _ _ (s3 _ _ I.at_), (I.own.mono s3).mono s4, I.nd, I.new⟩, e3', e4⟩
        | true =>
          rw [if_pos rfl]
          have e3' : ((e env1).bind fun d => (compL t c e (wipD env (own.map (·.2))) (xs.drop (i + 1))).map fun r => d :: r) = some rest := e3
          obtain ⟨d, ed, e5⟩ := bind1 e3'
          intro s0 H0 C cs fp
          refine (he s0 H0 C cs fp).run ((L :: F) ++ W) env1 d ed σ2 H4 (E2.mono s4) (V1.mono s4) _ fun v H5 G' s5 o5 n5 f5 => ?_
          have sD : H5 L = some (.lst acc) := s5 _ _ (s4 _ _ (s3 _ _ I.at_))
          have s15 : Same H1 H5 := I.same.trans (s3.trans (s4.trans s5))
          have gnew : ∀ a ∈ G', H1 a = none := fun a ha => Same.back I.same (Same.back s3 (Same.back s4 (f5 a ha)))
          have gF : ∀ a ∈ G', a ∉ F := fun a ha z => I.own.tracked a z (Same.back s3 (Same.back s4 (f5 a ha)))
          have gD : L ∉ G' := fun z => by have := f5 L z; rw [s4 _ _ (s3 _ _ I.at_)] at this; cases this
          have hal : acc.length ≤ xs.length := by
            have h1 := I.own.length
            have h2 := compL_len e2
            rw [← e4, List.length_append] at h2
            omega
          refine ⟨acc, sD, ?_, ?_⟩
          · show acc.length < sizeLine
            rw [← line_eq]
            omega
          cases er : compL t c e (wipD env (own.map (·.2))) (xs.drop (i + 1)) with
          | none => rw [er] at e5; cases e5
          | some r =>
            rw [er] at e5
            cases e5
            have updk : ∀ {W' F' : List Addr}, L ∉ F' → L ∈ W' → Keep W' W' F' H5 (upd H5 L (.lst (acc ++ [v]))) := fun {W' F'} h1 h2 => by
              refine ⟨fun a ha o h => ?_, fun a o ha h => ?_, fun a vs h => ?_, fun a o u h => ?_, fun a h _ => h⟩
              · rw [upd_ne (fun z => h1 (by rw [← z]; exact ha))]; exact h
              · rw [upd_ne (fun z => ha (by rw [z]; exact h2))]; exact h
              · rw [upd_ne (fun z => by rw [z, sD] at h; cases h)]; exact h
              · rw [upd_ne (fun z => by rw [z, sD] at h; cases h)]; exact h
            refine ⟨acc ++ [v], ds ++ [d], F ++ (G' ++ []), r, ⟨s15.put hD sD lst_code, upd_same, ?_, ?_, ?_⟩, rfl, by rw [List.append_assoc]; exact e4⟩
            · have sub1 : ∀ a ∈ (L :: (F ++ (G' ++ []))) ++ W, a ∈ (L :: F) ++ W ∨ H4 a = none := fun a ha => by
                simp only [List.append_nil, List.mem_append, List.mem_cons] at ha ⊢
                rcases ha with (z | z | z) | z
                · exact .inl (.inl (.inl z))
                · exact .inl (.inl (.inr z))
                · exact .inr (f5 a z)
                · exact .inl (.inr z)
              have o1 : Owns X.K cl ((L :: (F ++ (G' ++ []))) ++ W) H5 acc ds F := Owns.growS (I.own.mono (s3.trans s4)) s5 sub1
              have o2 : Own X.K cl ((L :: (F ++ (G' ++ []))) ++ W) H5 v d G' := o5.weak fun a ha => by
                simp only [List.append_nil, List.mem_append, List.mem_cons] at ha ⊢
                rcases ha with (z | z | z) | z
                · exact .inr (.inl (.inl z))
                · exact .inr (.inl (.inr z))
                · exact .inl z
                · exact .inr (.inr z)
              have hLF : L ∉ F := (List.nodup_cons.mp I.nd).1
              exact (Owns.append o1 (Owns.cons (G := []) o2 .nil)).keep (updk (by simp [hLF, gD]) (by simp))
            · refine List.nodup_cons.mpr ⟨by simp [(List.nodup_cons.mp I.nd).1, gD], ?_⟩
              rw [List.append_nil]
              exact List.nodup_append.mpr ⟨(List.nodup_cons.mp I.nd).2, n5, fun a ha b hb z => gF b hb (by rw [← z]; exact ha)⟩
            · intro a ha
              simp only [List.append_nil, List.mem_append] at ha
              exact ha.elim (I.new a) (gnew a)
    · rintro H' ⟨acc, ds, F, rest, I, e3, e4⟩
      rw [List.drop_length] at e3
      cases e3
      rw [List.append_nil] at e4
      subst e4
      refine k (.ref L) H' (L :: F) (s1.trans I.same) (.lstO I.at_ I.own) I.nd fun a ha => ?_
      rcases List.mem_cons.mp ha with z | z
      · rw [z]; exact Same.back s1 hD
      · exact Same.back s1 (I.new a z)⟩
theorem lc_lent {X : Cx} {cl : Cl} {elt tg iter : Expr} {ifs : List Expr} {scope : Scope} {vs : List Nat} {f : EE} (h : Lc X cl elt tg iter ifs scope vs f) : Lc X cl elt tg iter ifs scope vs (eLent f) := ⟨fun W env d q σ H E V Q k => by
  unfold eLent at q
  split at q
  · rename_i d' e1
    cases q
    exact h.run W env _ e1 σ H E V Q k
  · obtain ⟨d', e1, q1⟩ := bind1 q
    split at q1
    · rename_i hn
      cases q1
      exact h.run [] (frz env) _ e1 σ H E.frz (fun _ z => nomatch z) Q fun v H' F s o nd f => k v H' F s (o.nf _ hn) nd f
    · cases q1⟩
section
variable {X : Cx} {cl : Cl} {io : List Nat} {elt tg iter : Expr} {ifs : List Expr} {scope : Scope} {own : List (Str × Nat)} {pos spos py : Pos} {f : EE}
theorem pga {scope : Scope} {tg : Expr} (s : Shared) (H : Hp) (C : Addr) (cs : List (Str × Addr)) (fp : List Addr) : PG (X.blk s H scope (compEnvC scope cs C X.env) fp) tg (wGa X scope tg) := ⟨fun pins s' σ' H' v u Q' I r h => h s H C cs fp pins s' u I r⟩
theorem pqa (s : Shared) (H : Hp) (C : Addr) (cs : List (Str × Addr)) (fp : List Addr) : PTs (X.blk s H scope (compEnvC scope cs C X.env) fp) ifs (wQa X scope ifs) := ⟨fun pins s' σ' H' Q' I h => h s H C cs fp pins s' I⟩
theorem pea (s : Shared) (H : Hp) (C : Addr) (cs : List (Str × Addr)) (fp : List Addr) : PE (X.blk s H scope (compEnvC scope cs C X.env) fp) elt (wEa X scope elt) := ⟨fun pins s' σ' H' Q' I h => h s H C cs fp pins s' I⟩
theorem se_lc (h : Lc X cl elt tg iter ifs scope (own.map (·.2)) f) (hN : X.N.Nodup) (ok : blkC X.N X.env.scope scope own = true) (hc : X.calm = true := by rfl) (hs : ∀ x, foldedSetIterable iter X.env x = pure x := by intro _; rfl) :
    Se X cl (.ListComp elt [⟨tg, iter, ifs, 0⟩] scope pos) f := ⟨fun W env d q σ H E V Q k => by
  obtain ⟨wi, hw, ht⟩ := h.run W env d q σ H E V Q k
  exact wE.of (pe_lc hc hN hw (blkOk_by ok) pga pqa pea hs) ht⟩
end
end Tg

namespace Tg
open PySem PySem.Spec L2
/-! ### a node of one's own changed: a list, a dict, an object -/
def D.top : D → Bool
  | .lst o _ => o
  | .dic o _ _ => o
  | .obj o _ _ => o
  | _ => false
theorem D.top_sh : ∀ {n : D}, n.top = true → n.sh = false
  | .lst true _, _ => rfl
  | .dic true _ _, _ => rfl
  | .obj true _ _, _ => rfl
def HO.plain : HO → Bool
  | .tup _ => false
  | .frz _ _ => false
  | _ => true
theorem own_top {K : PySem.W.Frag} {cl : Cl} {W : List Addr} {H : Hp} {u : V} {n : D} {G : List Addr} (o : Own K cl W H u n G) (h : n.top = true) : ∃ q Gx, u = .ref q ∧ G = q :: Gx ∧ ∃ ho, H q = some ho ∧ HO.plain ho = true ∧ NT ho ∧ ∀ m, ho ≠ LamX.CodeO q m := by
  cases o <;> first | (cases h; done) | skip
  · exact ⟨_, _, rfl, rfl, _, by assumption, rfl, inferInstance, lst_code⟩
  · exact ⟨_, _, rfl, rfl, _, by assumption, rfl, inferInstance, dK_code⟩
  · exact ⟨_, _, rfl, rfl, _, by assumption, rfl, inferInstance, dT_code⟩
  · exact ⟨_, _, rfl, rfl, _, by assumption, rfl, inferInstance, objE_code (by assumption)⟩
  · exact ⟨_, _, rfl, rfl, _, by assumption, rfl, inferInstance, ins_code⟩
/-- what the change of the node at q leaves -/
structure NodeU (K : PySem.W.Frag) (cl : Cl) (R F : List Addr) (σ : St) (H : Hp) (env : Env) (i : Nat) (l : List St1) (q : Addr) (Gx F1 F2 : List Addr) (H2 : Hp) (Gn Gy : List Addr) (o' : HO) : Prop where
  kids : ∀ vs ds, Owns K cl (Gn ++ (R ++ F)) H2 vs ds Gn → Owns K cl (Gy ++ (R ++ (F1 ++ ((q :: Gn) ++ F2)))) (upd H2 q o') vs ds Gn
  out : ∀ v d, Own K cl (Gy ++ (R ++ F)) H v d Gy → Own K cl (Gy ++ (R ++ (F1 ++ ((q :: Gn) ++ F2)))) (upd H2 q o') v d Gy
  done : ∀ n', Own K cl (Gy ++ (R ++ (F1 ++ ((q :: Gn) ++ F2)))) (upd H2 q o') (.ref q) n' (q :: Gn) →
    EP K cl R Gy (F1 ++ ((q :: Gn) ++ F2)) σ (upd H2 q o') (setAt i l n' env) ∧ Fr F H (Gy ++ (F1 ++ ((q :: Gn) ++ F2))) (upd H2 q o')
theorem ER.nodeU {K : PySem.W.Frag} {cl : Cl} {R F : List Addr} {σ : St} {H : Hp} {env : Env} {i : Nat} {l : List St1} {n : D} (E : ER K cl R F σ H env) (hg : getAt i l env = some n) (ht : n.top = true) :
    ∃ v q Gx F1 F2, σ[i]? = some (some v) ∧ Nd K cl H v l (.ref q) ∧ F = F1 ++ ((q :: Gx) ++ F2) ∧ Own K cl (R ++ F) H (.ref q) n (q :: Gx) ∧ (q :: Gx).Nodup ∧ (∀ a ∈ q :: Gx, a ∈ F) ∧
      ∀ (H2 : Hp) (Gn Gy : List Addr) (o' : HO), HO.plain o' = true → Same H H2 → (Gn ++ Gy).Nodup → (∀ a ∈ Gn, a ∈ Gx ∨ H a = none) → (∀ a ∈ Gy, a ∈ Gx) → NodeU K cl R F σ H env i l q Gx F1 F2 H2 Gn Gy o' := by
  obtain ⟨v, u, G, F1, F2, h1, h2, h3, h4, h5⟩ := E.node hg (D.top_sh ht)
  obtain ⟨q, Gx, rfl, rfl, ho, hq, hpl, hnt, hcd⟩ := own_top h4 ht
  have nF := E.nd
  rw [h3] at nF
  have qF : q ∈ F := by rw [h3]; simp
  have ndq : (q :: Gx).Nodup := (List.nodup_append.mp (List.nodup_append.mp nF).2.1).1
  have qGx : q ∉ Gx := (List.nodup_cons.mp ndq).1
  refine ⟨v, q, Gx, F1, F2, h1, h2, h3, h4, ndq, fun a ha => by rw [h3]; simp only [List.mem_append]; exact .inr (.inl ha), fun H2 Gn Gy o' hpo s2 nd sub1 sub2' => ?_⟩
  have qn : H q ≠ none := by rw [hq]; simp
  have sub2 : ∀ a ∈ Gy, a ∈ Gx ∨ H a = none := fun a ha => .inl (sub2' a ha)
  have qG : ∀ a, (a ∈ Gx ∨ H a = none) → a ≠ q := fun a h z => by
    subst z
    exact h.elim qGx qn
  have qGn : q ∉ Gn := fun z => qG q (sub1 q z) rfl
  have qGy : q ∉ Gy := fun z => qG q (sub2 q z) rfl
  have hq2 : H2 q = some ho := s2 _ _ hq
  have qtup : ∀ b vs0, H2 b = some (.tup vs0) → b ≠ q := fun b vs0 e z => by rw [z, hq2] at e; cases e; cases hpl
  have qfrz : ∀ b o u0, H2 b = some (.frz o u0) → b ≠ q := fun b o u0 e z => by rw [z, hq2] at e; cases e; cases hpl
  have ndc := (List.nodup_append.mp nd)
  have other : ∀ b ∈ F1 ++ F2, b ≠ q ∧ b ∉ Gx := fun b hb => by
    rcases List.mem_append.mp hb with y | y
    · exact ⟨fun z => (List.nodup_append.mp nF).2.2 b y q (by simp) z, fun z => (List.nodup_append.mp nF).2.2 b y b (by simp [z]) rfl⟩
    · exact ⟨fun z => (List.nodup_append.mp (List.nodup_append.mp nF).2.1).2.2 q (by simp) b y z.symm, fun z => (List.nodup_append.mp (List.nodup_append.mp nF).2.1).2.2 b (by simp [z]) b y rfl⟩
  have o12 : ∀ b ∈ F1 ++ F2, b ∈ F := fun b hb => by rw [h3]; simp only [List.mem_append] at hb ⊢; rcases hb with z | z <;> simp [z]
  have gxF : ∀ b ∈ Gx, b ∈ F := fun b hb => by rw [h3]; simp [hb]
  have gnew : ∀ a, (a ∈ Gx ∨ H a = none) → a ∉ R ∧ a ∉ F1 ∧ a ∉ F2 := fun a h => by
    rcases h with z | z
    · exact ⟨E.ap a (gxF a z), fun y => (other a (List.mem_append_left _ y)).2 z, fun y => (other a (List.mem_append_right _ y)).2 z⟩
    · exact ⟨fun y => E.vd a y z, fun y => E.sl.tracked a (o12 a (List.mem_append_left _ y)) z, fun y => E.sl.tracked a (o12 a (List.mem_append_right _ y)) z⟩
  -- what is avoided then, where it stood
  have av : ∀ b, b ∉ R ++ F → H b ≠ none → b ∉ Gy ++ (R ++ (F1 ++ ((q :: Gn) ++ F2))) := fun b hb hn z => by
    simp only [List.mem_append, List.mem_cons, not_or] at hb z
    rcases z with z | z | z | (z | z) | z
    · exact (sub2 b z).elim (fun y => hb.2 (gxF b y)) hn
    · exact hb.1 z
    · exact hb.2 (o12 b (List.mem_append_left _ z))
    · exact hb.2 (by rw [z]; exact qF)
    · exact (sub1 b z).elim (fun y => hb.2 (gxF b y)) hn
    · exact hb.2 (o12 b (List.mem_append_right _ z))
  have updK : ∀ {W W' F' : List Addr}, q ∉ F' → q ∈ W → (∀ b, b ∉ W → H2 b ≠ none → b ∉ W') → Keep W W' F' H2 (upd H2 q o') := fun {W W' F'} z1 z2 z3 =>
    ⟨fun b hb o e => by rw [upd_ne (fun z => z1 (by rw [← z]; exact hb))]; exact e, fun b o hb e => by rw [upd_ne (fun z => hb (by rw [z]; exact z2))]; exact e,
      fun b vs0 e => by rw [upd_ne (qtup b vs0 e)]; exact e, fun b o u0 e => by rw [upd_ne (qfrz b o u0 e)]; exact e, z3⟩
  have gyF : ∀ b ∈ Gy, b ∈ F := fun b hb => gxF b (sub2' b hb)
  have kp : Keep (R ++ F) (Gy ++ (R ++ (F1 ++ ((q :: Gn) ++ F2)))) (F1 ++ F2) H (upd H2 q o') := by
    refine ⟨fun b hb o e => ?_, fun b o hb e => ?_, fun b vs0 e => ?_, fun b o u0 e => ?_, av⟩
    · rw [upd_ne (other b hb).1]; exact s2 b o e
    · rw [upd_ne (fun z => hb (by rw [z]; simp [qF]))]; exact s2 b o e
    · rw [upd_ne (qtup b vs0 (s2 _ _ e))]; exact s2 _ _ e
    · rw [upd_ne (qfrz b o u0 (s2 _ _ e))]; exact s2 _ _ e
  refine ⟨fun vs ds o2 => ?_, fun v d o2 => ?_, fun n' on => ⟨⟨h5 _ _ _ _ kp on, ?_, ?_, fun a ha e => ?_, ndc.2.1, fun a ha => ⟨(gnew a (sub2 a ha)).1, fun z => ?_⟩, fun a ha => ?_, fun p hp => tabs_upd hq2 hcd _ _ (s2.tabs _ _ (E.tabs p hp))⟩, ⟨fun b o e hb => ?_, fun b vs0 e => ?_, fun b o u0 e => ?_, fun b e => ?_, fun b hb => ?_, fun P n t => tabs_upd hq2 hcd _ _ (s2.tabs _ _ t)⟩⟩⟩
  · refine o2.keep (updK qGn (by simp [qF]) fun b hb hn z => ?_)
    simp only [List.mem_append, List.mem_cons, not_or] at hb z
    rcases z with z | z | z | (z | z) | z
    · exact hb.2.2 (gyF b z)
    · exact hb.2.1 z
    · exact hb.2.2 (o12 b (List.mem_append_left _ z))
    · exact hb.2.2 (by rw [z]; exact qF)
    · exact hb.1 z
    · exact hb.2.2 (o12 b (List.mem_append_right _ z))
  · refine o2.keep ⟨fun b hb o e => ?_, fun b o hb e => ?_, fun b vs0 e => ?_, fun b o u0 e => ?_, fun b hb hn z => ?_⟩
    · rw [upd_ne (fun z => qGy (by rw [← z]; exact hb))]; exact s2 b o e
    · rw [upd_ne (fun z => hb (by rw [z]; simp [qF]))]; exact s2 b o e
    · rw [upd_ne (qtup b vs0 (s2 _ _ e))]; exact s2 _ _ e
    · rw [upd_ne (qfrz b o u0 (s2 _ _ e))]; exact s2 _ _ e
    · simp only [List.mem_append, List.mem_cons, not_or] at hb z
      rcases z with z | z | z | (z | z) | z
      · exact hb.1 z
      · exact hb.2.1 z
      · exact hb.2.2 (o12 b (List.mem_append_left _ z))
      · exact hb.2.2 (by rw [z]; exact qF)
      · exact (sub1 b z).elim (fun y => hb.2.2 (gxF b y)) hn
      · exact hb.2.2 (o12 b (List.mem_append_right _ z))
  · refine nodup_mid nF (List.nodup_cons.mpr ⟨qGn, ndc.1⟩) fun x hx => ?_
    rcases List.mem_cons.mp hx with z | z
    · exact .inl (by rw [z]; simp)
    · exact .inr ⟨(gnew x (sub1 x z)).2.1, (gnew x (sub1 x z)).2.2⟩
  · intro a ha
    simp only [List.mem_append, List.mem_cons] at ha
    rcases ha with z | (z | z) | z
    · exact E.ap a (o12 a (List.mem_append_left _ z))
    · exact E.ap a (by rw [z]; exact qF)
    · exact (gnew a (sub1 a z)).1
    · exact E.ap a (o12 a (List.mem_append_right _ z))
  · have : a ≠ q := fun z => E.ap q qF (by rw [← z]; exact ha)
    rw [upd_ne this] at e
    exact E.vd a ha (Same.back s2 e)
  · simp only [List.mem_append, List.mem_cons] at z
    rcases z with z | (z | z) | z
    · exact (gnew a (sub2 a ha)).2.1 z
    · exact qGy (by rw [← z]; exact ha)
    · exact ndc.2.2 a z a ha rfl
    · exact (gnew a (sub2 a ha)).2.2 z
  · rw [upd_ne (qG a (sub2 a ha))]
    intro e
    exact E.sl.tracked a (gyF a ha) (Same.back s2 e)
  · rw [upd_ne (fun z => hb (by rw [z]; exact qF))]; exact s2 b o e
  · rw [upd_ne (qtup b vs0 (s2 _ _ e))]; exact s2 _ _ e
  · rw [upd_ne (qfrz b o u0 (s2 _ _ e))]; exact s2 _ _ e
  · by_cases z : b = q
    · rw [z, upd_same] at e; cases e
    · rw [upd_ne z] at e; exact Same.back s2 e
  · simp only [List.mem_append, List.mem_cons] at hb
    rcases hb with z | z | (z | z) | z
    · exact .inl (gyF b z)
    · exact .inl (o12 b (List.mem_append_left _ z))
    · exact .inl (by rw [z]; exact qF)
    · exact (sub1 b z).elim (fun y => .inl (gxF b y)) .inr
    · exact .inl (o12 b (List.mem_append_right _ z))
end Tg

namespace Tg
open PySem PySem.Spec L2
/-! ### expressions that move, change -/
abbrev EM := Env → Option (D × Env)
def mE (f : EE) : EM := fun env => (f env).map fun d => (d, env)
/-- what stands at a path, handed on: shared, else moved away -/
def mMv (i : Nat) (p : EP1) : EM := fun env => (p env).bind fun l => (getAt i l env).bind fun d => if d.sh then some (d, env) else some (d, setAt i l .hole env)
/-- path.pop() -/
def mPop (i : Nat) (p : EP1) : EM := fun env => (p env).bind fun l => match getAt i l env with
  | some (.lst true xs) => xs.getLast?.map fun y => (y, setAt i l (.lst true xs.dropLast) env)
  | _ => none
/-- path.pop(k) -/
def mPopAt (i : Nat) (p : EP1) (k : EE) : EM := fun env => (p env).bind fun l => match getAt i l env with
  | some (.lst true xs) => (k env).bind fun d => match d with
    | .int z => (ixD xs.length z).bind fun j => if -(2 ^ 63) ≤ z ∧ z < 2 ^ 63 then xs[j]?.map fun y => (y, setAt i l (.lst true (xs.eraseIdx j)) env) else none
    | _ => none
  | _ => none
def sRetM (f : EM) : SS := fun env => (f env).map fun x => .rt x.1 x.2
def sAsgM (f : EM) (t : TgT) : SS := fun env => (f env).bind fun x => (t x.1 x.2).map .nx
def sDropM (f : EM) : SS := fun env => (f env).map fun x => .nx x.2
structure Sv (X : Cx) (cl : Cl) (e : Expr) (f : EM) : Prop where
  run : ∀ (R F : List Addr) (env env' : Env) (d : D), f env = some (d, env') → ∀ (σ : St) (H : Hp), ER X.K cl R F σ H env → ∀ Q : VK,
    (∀ v H' F' G, EP X.K cl R G F' σ H' env' → Own X.K cl (G ++ (R ++ F')) H' v d G → Fr F H (G ++ F') H' → Q v H') → wE X e σ H Q
section
variable {X : Cx} {cl : Cl} {io : List Nat} {a b c e tg : Expr} {f g h : EE} {pos apos : Pos} {i : Nat} {p : EP1} {t0 : TgT} {m : EM}
theorem sv_se (h : Se X cl e f) : Sv X cl e (mE f) := ⟨fun R F env env' d q σ H E Q k => by
  unfold mE at q
  cases e1 : f env with
  | none => rw [e1] at q; cases q
  | some d' =>
    rw [e1] at q
    cases q
    exact h.run _ env d e1 σ H E.ev E.vd' Q fun v H' G s1 o1 n1 f1 => k v H' F G (E.ep s1 n1 f1 o1.tracked) o1 (Fr.same s1 fun a ha => (List.mem_append.mp ha).elim (fun z => .inr (f1 a z)) .inl)⟩
theorem getAt_some {i : Nat} {l : List St1} {env : Env} {d : D} (h : getAt i l env = some d) : ∃ d0, env[i]? = some d0 ∧ d0 ≠ .hole ∧ getP l d0 = some d := by
  unfold getAt at h
  split at h
  · cases h
  · rename_i d0 hne hd
    exact ⟨d0, hd, fun z => hne z, h⟩
  · cases h
/-- down a path, looked at -/
theorem own_down {K : PySem.W.Frag} : ∀ {W : List Addr} {H : Hp} (l : List St1) {v : V} {d n : D} {F : List Addr}, Own K cl W H v d F → getP l d = some n → ∃ u G, Nd K cl H v l u ∧ Own K cl W H u n G ∧ ∀ a ∈ G, a ∈ F
  | W, H, [], v, d, n, F, o, e => by
    have e' : some d = some n := e
    cases e'
    exact ⟨v, F, rfl, o, fun a ha => ha⟩
  | W, H, s :: r, v, d, n, F, o, e => by
    have e' : (getS s d).bind (getP r) = some n := e
    obtain ⟨d1, e1, e2⟩ := bind1 e'
    unfold getS at e1
    split at e1
    · rename_i i ob xs
      obtain ⟨a, vs, G, rfl, h1, h2, h3⟩ := own_lst o
      obtain ⟨w, G1, g1, g2, g3⟩ := owns_at h2 e1
      obtain ⟨u, G2, k1, k2, k3⟩ := own_down r g2 e2
      exact ⟨u, G2, ⟨w, ⟨a, vs, rfl, .inl (SqL.of h1), g1⟩, k1⟩, k2, fun b hb => h3 b (g3 b (k3 b hb))⟩
    · rename_i i xs
      obtain ⟨a, vs, rfl, h1, h2⟩ := own_tup o
      obtain ⟨w, G1, g1, g2, g3⟩ := owns_at h2 e1
      obtain ⟨u, G2, k1, k2, k3⟩ := own_down r g2 e2
      exact ⟨u, G2, ⟨w, ⟨a, vs, rfl, .inr h1, g1⟩, k1⟩, k2, fun b hb => g3 b (k3 b hb)⟩
    · rename_i cc ff ob c' fs
      split at e1
      rotate_left
      · cases e1
      rename_i ec
      subst ec
      cases o with
      | objO h en hs =>
        obtain ⟨j, p1, p2, _⟩ := putFD_maps en e1
        obtain ⟨w, G1, g1, g2, g3⟩ := hs.get p1
        obtain ⟨u, G2, k1, k2, k3⟩ := own_down r g2 e2
        exact ⟨u, G2, ⟨w, ⟨_, _, _, rfl, h, by rw [p2]; exact g1⟩, k1⟩, k2, fun b hb => List.mem_cons_of_mem _ (g3 b (k3 b hb))⟩
      | objF h hn en hs =>
        obtain ⟨j, p1, p2, _⟩ := putFD_maps en e1
        obtain ⟨w, G1, g1, g2, g3⟩ := hs.get p1
        obtain ⟨u, G2, k1, k2, k3⟩ := own_down r g2 e2
        exact ⟨u, G2, ⟨w, ⟨_, _, _, rfl, h, by rw [p2]; exact g1⟩, k1⟩, k2, fun b hb => g3 b (k3 b hb)⟩
    · rename_i y ob nn ds
      split at e1
      · cases e1
      rename_i hn1
      cases o with
      | dicO h en hs =>
        obtain ⟨j, kk, hy, p1, p2, _⟩ := look_zoom keq_kD en e1
        obtain ⟨w, G1, g1, g2, g3⟩ := hs.get p1
        obtain ⟨u, G2, k1, k2, k3⟩ := own_down r g2 e2
        exact ⟨u, G2, ⟨w, ⟨_, rfl, .inl ⟨_, kk, h, hy, by rw [p2]; exact g1⟩⟩, k1⟩, k2, fun b hb => List.mem_cons_of_mem _ (g3 b (k3 b hb))⟩
      | dicF h hn en hs =>
        obtain ⟨j, kk, hy, p1, p2, _⟩ := look_zoom keq_kD en e1
        obtain ⟨w, G1, g1, g2, g3⟩ := hs.get p1
        obtain ⟨u, G2, k1, k2, k3⟩ := own_down r g2 e2
        exact ⟨u, G2, ⟨w, ⟨_, rfl, .inl ⟨_, kk, h, hy, by rw [p2]; exact g1⟩⟩, k1⟩, k2, fun b hb => g3 b (k3 b hb)⟩
      | dtO h en hs => exact absurd rfl hn1
      | dtF h hn en hs => exact absurd rfl hn1
      | dnO h ok ks en hs =>
        rename_i a ob' kvs F0
        obtain ⟨j, kk, hy, p1, p2, _⟩ := look_zoom (kvs := nv kvs) keq_nkD (by rw [nv_fst]; exact en) e1
        rw [nv_snd] at p2
        obtain ⟨w, G1, g1, g2, g3⟩ := hs.get p1
        obtain ⟨u, G2, k1, k2, k3⟩ := own_down r g2 e2
        exact ⟨u, G2, ⟨w, ⟨_, rfl, .inr ⟨ob', kvs, kk, _, h, ok, by rw [en]; exact ks, hy, by rw [p2]; exact g1⟩⟩, k1⟩, k2, fun b hb => List.mem_cons_of_mem _ (g3 b (k3 b hb))⟩
      | dnF h hn ok ks en hs =>
        rename_i a ob' kvs
        obtain ⟨j, kk, hy, p1, p2, _⟩ := look_zoom (kvs := nv kvs) keq_nkD (by rw [nv_fst]; exact en) e1
        rw [nv_snd] at p2
        obtain ⟨w, G1, g1, g2, g3⟩ := hs.get p1
        obtain ⟨u, G2, k1, k2, k3⟩ := own_down r g2 e2
        exact ⟨u, G2, ⟨w, ⟨_, rfl, .inr ⟨ob', kvs, kk, _, h, ok, by rw [en]; exact ks, hy, by rw [p2]; exact g1⟩⟩, k1⟩, k2, fun b hb => g3 b (k3 b hb)⟩
    · cases e1
theorem sv_mv (ha : Pt X cl e i p) : Sv X cl e (mMv i p) := ⟨fun R F env env' d q σ H E Q k => by
  unfold mMv at q
  obtain ⟨l, e1, q1⟩ := bind1 q
  obtain ⟨d', e2, q2⟩ := bind1 q1
  split at q2
  · rename_i hs
    cases q2
    obtain ⟨d0, h0, hne, hp⟩ := getAt_some e2
    obtain ⟨v, F0, h3, h4⟩ := E.ev.at_ i d0 h0 hne
    obtain ⟨u, G, k1, k2, _⟩ := own_down l h4 hp
    have := k2.sh hs
    subst this
    refine ha.run _ env l e1 σ H E.ev E.vd' v u h3 k1 Q fun H' s1 => ?_
    exact k u H' F [] (E.ep s1 List.nodup_nil (fun _ z => nomatch z) (fun _ z => nomatch z)) (k2.mono s1) (Fr.same s1 fun a ha => .inl (by simpa using ha))
  · rename_i hs
    cases q2
    obtain ⟨v, u, G, F1, F2, h1, h2, h3, h4, h5⟩ := E.node e2 (by simpa using hs)
    refine ha.run _ env l e1 σ H E.ev E.vd' v u h1 h2 Q fun H' s1 => ?_
    have nF := E.nd
    rw [h3] at nF
    have nF2 := (List.nodup_append.mp nF).2.1
    have hsub : ∀ b, b ∈ F1 ++ F2 → b ∈ F := fun b hb => by rw [h3]; simp only [List.mem_append] at hb ⊢; rcases hb with z | z <;> simp [z]
    have gsub : ∀ b ∈ G, b ∈ F := fun b hb => by rw [h3]; simp [hb]
    have perm : ∀ b, b ∈ G ++ (R ++ (F1 ++ F2)) ↔ b ∈ R ++ F := fun b => by
      rw [h3]
      simp only [List.mem_append]
      constructor
      · rintro (z | z | z | z) <;> simp [z]
      · rintro (z | z | z | z) <;> simp [z]
    have kp : Keep (R ++ F) (G ++ (R ++ (F1 ++ F2))) (F1 ++ F2) H H' := ⟨fun b _ o h => s1 b o h, fun b o _ h => s1 b o h, fun b vs h => s1 _ _ h, fun b o u h => s1 _ _ h, fun b hb _ z => hb ((perm b).mp z)⟩
    have sl := h5 (G ++ (R ++ (F1 ++ F2))) H' .hole [] kp (.hole u)
    refine k u H' (F1 ++ F2) G ⟨sl, ?_, fun b hb => E.ap b (hsub b hb), E.vd.mono s1, (List.nodup_append.mp nF2).1, fun b hb => ⟨E.ap b (gsub b hb), fun z => ?_⟩, fun b hb n => E.sl.tracked b (gsub b hb) (Same.back s1 n), E.tabs.mono s1⟩ ((h4.mono s1).keep (Keep.re (K := X.K) fun b hb _ z => hb ((perm b).mp z))) (Fr.same s1 fun b hb => .inl ?_)
    · exact List.nodup_append.mpr ⟨(List.nodup_append.mp nF).1, (List.nodup_append.mp nF2).2.1, fun x hx y hy => (List.nodup_append.mp nF).2.2 x hx y (List.mem_append_right _ hy)⟩
    · rcases List.mem_append.mp z with z | z
      · exact (List.nodup_append.mp nF).2.2 b z b (List.mem_append_left _ hb) rfl
      · exact (List.nodup_append.mp nF2).2.2 b hb b z rfl
    · rcases List.mem_append.mp hb with z | z
      · exact gsub b z
      · exact hsub b z⟩
/-! ### statements -/
theorem sm_retM (h : Sv X cl e m) : Sm X cl io (.Return (some e) pos) (sRetM m) := ⟨fun R F env fl q σ H E D k => by
  unfold sRetM at q
  cases e1 : m env with
  | none => rw [e1] at q; cases q
  | some x =>
    obtain ⟨d, env'⟩ := x
    rw [e1] at q
    cases q
    refine wS.of (ps_ret pe_w) ?_
    exact h.run R F env env' d e1 σ H E _ fun v H' F' G ep o fr => k v σ H' F' G ep o fr Pin.refl⟩
theorem sm_dropM (h : Sv X cl e m) (hs : swapsWith e none pos.line X.env = pure false := by rfl) : Sm X cl io (.Expr e pos) (sDropM m) := ⟨fun R F env fl q σ H E D k => by
  unfold sDropM at q
  cases e1 : m env with
  | none => rw [e1] at q; cases q
  | some x =>
    obtain ⟨d, env'⟩ := x
    rw [e1] at q
    cases q
    refine wS.of (ps_expr pe_w hs) ?_
    exact h.run R F env env' d e1 σ H E _ fun v H' F' G ep o fr => k σ H' F' ep.er (fr.mono fun a ha => .inl (List.mem_append_right _ ha)) Pin.refl⟩
theorem sm_asgM (he : Sv X cl e m) (ht : Tt X cl io tg t0) (hs : swapsWithSole [tg] e pos.line X.env = pure false := by rfl) (hw : swappedStores [tg] e X.env = pure none := by rfl)
    (h1 : (assignEach [tg] X.env).map (·.2) = [assign tg X.env] := by rfl) : Sm X cl io (.Assign [tg] e pos) (sAsgM m t0) := ⟨fun R F env fl q σ H E D k => by
  unfold sAsgM at q
  obtain ⟨x, e1, q1⟩ := bind1 q
  obtain ⟨d, env1⟩ := x
  cases e2 : t0 d env1 with
  | none => rw [e2] at q1; cases q1
  | some env' =>
    rw [e2] at q1
    cases q1
    refine wS.of (ps_asg pe_w pg_w hs hw h1) ?_
    refine he.run R F env env1 d e1 σ H E _ fun v H' F' G ep o fr => ?_
    refine ht.run R G F' env1 env' d e2 σ H' v ep o _ fun σ' F'' E' sub pin => ?_
    exact k σ' H' F'' E' (fr.mono fun a ha => .inl ((sub a ha).elim (fun z => List.mem_append_right _ z) (fun z => List.mem_append_left _ z))) pin⟩
/-! ### pop -/
theorem getLast_some {α : Type} {xs : List α} {y : α} (h : xs.getLast? = some y) : 0 < xs.length ∧ xs[xs.length - 1]? = some y := by
  rw [List.getLast?_eq_getElem?] at h
  exact ⟨by
    cases xs with
    | nil => simp at h
    | cons _ _ => simp, h⟩
theorem eraseIdx_last {α : Type} (xs : List α) : xs.eraseIdx (xs.length - 1) = xs.dropLast := by
  rw [List.eraseIdx_eq_take_drop_succ, List.dropLast_eq_take]
  cases xs with
  | nil => rfl
  | cons x r => simp
theorem Owns.erase {K : PySem.W.Frag} : ∀ {W : List Addr} {H : Hp} {vs : List V} {ds : List D} {F : List Addr} {j : Nat} {d : D}, Owns K cl W H vs ds F → ds[j]? = some d → ∃ v G F1 F2, vs[j]? = some v ∧ F = F1 ++ (G ++ F2) ∧ Own K cl W H v d G ∧ Owns K cl W H (vs.eraseIdx j) (ds.eraseIdx j) (F1 ++ F2)
  | _, _, _, _, _, _, _, .nil, e => by simp at e
  | W, H, _, _, _, 0, d, .cons (v := v) (F := G) (G := F2) o os, e => by
    simp at e
    subst e
    exact ⟨v, G, [], F2, rfl, rfl, o, os⟩
  | W, H, _, _, _, j + 1, d, .cons (F := G0) o os, e => by
    obtain ⟨v, G, F1, F2, h1, h2, h3, h4⟩ := Owns.erase (j := j) (d := d) os (by simpa using e)
    refine ⟨v, G, G0 ++ F1, F2, by simpa using h1, by rw [h2, List.append_assoc], h3, ?_⟩
    rw [List.append_assoc]
    exact .cons o h4
/-- an item taken out of a list of one's own -/
theorem take_out {R F : List Addr} {σ : St} {H : Hp} {env : Env} {l : List St1} {xs : List D} {j : Nat} {y : D} (E : ER X.K cl R F σ H env) (hg : getAt i l env = some (.lst true xs)) (hy : xs[j]? = some y) :
    ∃ v q vs w, σ[i]? = some (some v) ∧ Nd X.K cl H v l (.ref q) ∧ H q = some (.lst vs) ∧ vs.length = xs.length ∧ vs[j]? = some w ∧ ∀ H2, Same H H2 → ∃ F' G, EP X.K cl R G F' σ (upd H2 q (.lst (vs.eraseIdx j))) (setAt i l (.lst true (xs.eraseIdx j)) env) ∧
      Own X.K cl (G ++ (R ++ F')) (upd H2 q (.lst (vs.eraseIdx j))) w y G ∧ Fr F H (G ++ F') (upd H2 q (.lst (vs.eraseIdx j))) := by
  obtain ⟨v, q, Gx, F1, F2, h1, h2, h3, h4, h5, h6, h7⟩ := E.nodeU hg rfl
  cases h4 with
  | lstO hq hs =>
    rename_i vs
    obtain ⟨w, G, A, B, g1, g2, g3, g4⟩ := hs.erase hy
    refine ⟨v, q, vs, w, h1, h2, hq, hs.length, g1, fun H2 s2 => ?_⟩
    have gx := (List.nodup_cons.mp h5).2
    have n1 : (A ++ (G ++ B)).Nodup := by rw [← g2]; exact gx
    have n2 := List.nodup_append.mp n1
    have n3 := List.nodup_append.mp n2.2.1
    have U := h7 H2 (A ++ B) G (.lst (vs.eraseIdx j)) rfl s2 (List.nodup_append.mpr ⟨List.nodup_append.mpr ⟨n2.1, n3.2.1, fun a ha b hb => n2.2.2 a ha b (List.mem_append_right _ hb)⟩, n3.1, fun a ha b hb => by
        rcases List.mem_append.mp ha with z | z
        · exact n2.2.2 a z b (List.mem_append_left _ hb)
        · exact fun e => n3.2.2 b hb a z e.symm⟩)
      (fun a ha => .inl (by rw [g2]; simp only [List.mem_append] at ha ⊢; rcases ha with z | z <;> simp [z])) (fun a ha => by rw [g2]; simp [ha])
    have sG : ∀ a ∈ G, a ∈ F := fun a ha => h6 a (List.mem_cons_of_mem _ (by rw [g2]; simp [ha]))
    have sAB : ∀ a ∈ A ++ B, a ∈ F := fun a ha => h6 a (List.mem_cons_of_mem _ (by rw [g2]; simp only [List.mem_append] at ha ⊢; rcases ha with z | z <;> simp [z]))
    obtain ⟨ep, fr⟩ := U.done (.lst true (xs.eraseIdx j)) (.lstO upd_same (U.kids _ _ ((g4.mono s2).weak fun a ha => by
      rcases List.mem_append.mp ha with z | z
      · exact List.mem_append_right _ (sAB a z)
      · exact z)))
    refine ⟨_, G, ep, U.out _ _ (g3.weak fun a ha => ?_), fr⟩
    rcases List.mem_append.mp ha with z | z
    · exact List.mem_append_right _ (sG a z)
    · exact z
theorem sv_pop (ha : Pt X cl a i p) {cpos : Pos} (hbase : attributeBase a "pop" X.env (eval a X.env) = eval a X.env := by rfl) (hline : (apos.endLine == cpos.line) = true := by rfl) : Sv X cl (.Call (.Attribute a "pop" apos) [] [] cpos) (mPop i p) := ⟨fun R F env env' d q σ H E Q k => by
  unfold mPop at q
  obtain ⟨l, e1, q1⟩ := bind1 q
  split at q1
  · rename_i xs hg
    cases hy : xs.getLast? with
    | none => rw [hy] at q1; cases q1
    | some y =>
      rw [hy] at q1
      cases q1
      obtain ⟨hpos, hy'⟩ := getLast_some hy
      obtain ⟨v, q, vs, w, h1, h2, h3, h4, h5, h6⟩ := take_out E hg hy'
      refine wE.of (pe_bm0 PySem.F.plainAttrs_list PySem.F.slot_list_pop PySem.F.type_list_pop mt_pop pe_w hbase hline) ?_
      refine ha.run _ env l e1 σ H E.ev E.vd' v _ h1 h2 _ fun H1 s1 => ?_
      refine ⟨.inl ⟨rfl, _, SqL.of (s1 _ _ h3)⟩, q, vs, w, rfl, rfl, s1 _ _ h3, by rw [h4]; exact h5, ?_⟩
      obtain ⟨F', G, ep, o, fr⟩ := h6 H1 s1
      have e3 : vs.eraseIdx (xs.length - 1) = vs.dropLast := by rw [← h4]; exact eraseIdx_last vs
      rw [eraseIdx_last xs, e3] at ep
      rw [e3] at o fr
      exact k w _ F' G ep o fr
  · cases q1⟩
theorem ixN_seq' {n : Nat} {z : Int} {j : Nat} (h : ixD n z = some j) : seqIndex? z n = some j := (ixN_seq (show ixN n z = some j from h)).1
theorem sv_popAt (ha : Pt X cl a i p) (hb : Pk X cl b g) {cpos : Pos} (h1 : starEach [b] X.env = (false, eval b X.env) :: starEach [] X.env := by rfl)
    (hpe : ∀ {ta : TE} {t : TA}, PE X a ta → PA X [b] t → PE X (.Call (.Attribute a "pop" apos) [b] [] cpos) (tBM X.K "list" rPopAt ta t) := by
      intro ta t h1 h2; exact pe_bm PySem.F.plainAttrs_list PySem.F.slot_list_pop PySem.F.type_list_pop mt_popAt h1 h2) : Sv X cl (.Call (.Attribute a "pop" apos) [b] [] cpos) (mPopAt i p g) := ⟨fun R F env env' d q σ H E Q k => by
  unfold mPopAt at q
  obtain ⟨l, e1, q1⟩ := bind1 q
  split at q1
  · rename_i xs hg
    obtain ⟨dz, e2, q2⟩ := bind1 q1
    split at q2
    · rename_i z
      obtain ⟨j, ej, q3⟩ := bind1 q2
      split at q3
      · rename_i hz
        cases hy : xs[j]? with
        | none => rw [hy] at q3; cases q3
        | some y =>
          rw [hy] at q3
          cases q3
          obtain ⟨v, q, vs, w, g1, g2, g3, g4, g5, g6⟩ := take_out E hg hy
          refine wE.of (hpe pe_w (pa_cons pe_w pa_nil h1)) ?_
          refine ha.run _ env l e1 σ H E.ev E.vd' v _ g1 g2 _ fun H1 s1 => ?_
          refine ⟨.inl ⟨rfl, _, SqL.of (s1 _ _ g3)⟩, ?_⟩
          refine hb.run _ env _ e2 σ H1 (E.ev.mono s1) (E.vd'.mono s1) _ fun u H2 G2 s2 o2 => ?_
          cases own_int o2
          refine ⟨q, vs, z, j, w, rfl, rfl, s2 _ _ (s1 _ _ g3), hz.1, hz.2, by rw [g4]; exact ixN_seq' ej, g5, ?_⟩
          obtain ⟨F', G, ep, o, fr⟩ := g6 H2 (s1.trans s2)
          exact k w _ F' G ep o fr
      · cases q3
    · cases q2
  · cases q1⟩
end
end Tg

namespace Tg
open PySem PySem.Spec L2
/-! ### lists of one's own, by their methods; fields stored; counting up -/
def sExt (i : Nat) (p : EP1) (e : EE) : SS := fun env => (p env).bind fun l => match getAt i l env with
  | some (.lst true xs) => (e env).bind fun d => match d with
    | .lst _ ys => if xs.length + ys.length ≤ line then some (.nx (setAt i l (.lst true (xs ++ ys)) env)) else none
    | _ => none
  | _ => none
def sRev (i : Nat) (p : EP1) : SS := fun env => (p env).bind fun l => match getAt i l env with
  | some (.lst true xs) => if D.shs xs then some (.nx (setAt i l (.lst true xs.reverse) env)) else none
  | _ => none
def sClr (i : Nat) (p : EP1) : SS := fun env => (p env).bind fun l => match getAt i l env with
  | some (.lst true xs) => some (.nx (setAt i l (.lst true []) env))
  | _ => none
def sAugN (i : Nat) (e : EE) : SS := fun env => match env[i]? with
  | some (.int a) => match e env with
    | some (.int b) => some (.nx (env.set i (.int (a + b))))
    | _ => none
  | _ => none
def sAugS (i : Nat) (p : EP1) (k e : EE) : SS := fun env => (p env).bind fun l => match getAt i l env with
  | some (.lst true xs) => match k env with
    | some (.int z) => (ixD xs.length z).bind fun j => match xs[j]? with
      | some (.int a) => match e env with
        | some (.int b) => some (.nx (setAt i l (.lst true (xs.set j (.int (a + b)))) env))
        | _ => none
      | _ => none
    | _ => none
  | _ => none
/-- path.f = e -/
def sSetF (i : Nat) (p : EP1) (c : Nat) (f : Str) (e : EE) : SS := fun env => (e env).bind fun y => (p env).bind fun l => match getAt i l env with
  | some (.obj true c' fs) => if c = c' ∧ fs.length < 1000 then some (.nx (setAt i l (.obj true c' (putFD f y fs)) env)) else none
  | _ => none
section
variable {X : Cx} {cl : Cl} {io : List Nat} {a b c e tg : Expr} {f g h : EE} {pos apos : Pos} {i : Nat} {p : EP1} {t0 : TgT} {m : EM}
theorem Owns.shsR {K : PySem.W.Frag} {W : List Addr} {H : Hp} {vs : List V} {ds : List D} (h : Owns K cl W H vs ds []) : Owns K cl W H vs.reverse ds.reverse [] := by
  generalize hF : ([] : List Addr) = F at h
  induction h using Owns.rec (motive_1 := fun _ _ _ _ => True) with
  | nil => exact .nil
  | cons o os _ ih =>
    obtain ⟨rfl, rfl⟩ := app_nil2 hF.symm
    rw [List.reverse_cons, List.reverse_cons]
    exact Owns.append (F := []) (G := []) (ih rfl) (Owns.cons (F := []) (G := []) o .nil)
  | _ => trivial
theorem own_lstN {K : PySem.W.Frag} {W : List Addr} {H : Hp} {v : V} {F : List Addr} {o : Bool} {ds : List D} (h : Own K cl W H v (.lst o ds) F) : ∃ a vs G, v = .ref a ∧ H a = some (.lst vs) ∧ Owns K cl W H vs ds G ∧ (∀ b ∈ G, b ∈ F) ∧ (F.Nodup → G.Nodup) := by
  cases h with
  | lstO h hs => exact ⟨_, _, _, rfl, h, hs, fun b hb => List.mem_cons_of_mem _ hb, fun n => (List.nodup_cons.mp n).2⟩
  | lstF h hn hs => exact ⟨_, _, _, rfl, h, hs, fun b hb => hb, fun n => n⟩
/-- a list of one's own gets other items, none of which is new -/
theorem list_new {R F : List Addr} {σ : St} {H : Hp} {env : Env} {l : List St1} {xs : List D} (E : ER X.K cl R F σ H env) (hg : getAt i l env = some (.lst true xs)) :
    ∃ v q vs Gx, σ[i]? = some (some v) ∧ Nd X.K cl H v l (.ref q) ∧ H q = some (.lst vs) ∧ Owns X.K cl (R ++ F) H vs xs Gx ∧ vs.length = xs.length ∧ Gx.Nodup ∧ (∀ a ∈ Gx, a ∈ F) ∧
      ∀ (H2 : Hp) (vs' : List V) (xs' : List D) (Gn : List Addr), Same H H2 → Gn.Nodup → (∀ a ∈ Gn, a ∈ Gx ∨ H a = none) → Owns X.K cl (Gn ++ (R ++ F)) H2 vs' xs' Gn →
        ∃ F', ER X.K cl R F' σ (upd H2 q (.lst vs')) (setAt i l (.lst true xs') env) ∧ Fr F H F' (upd H2 q (.lst vs')) := by
  obtain ⟨v, q, Gx, F1, F2, h1, h2, h3, h4, h5, h6, h7⟩ := E.nodeU hg rfl
  cases h4 with
  | lstO hq hs =>
    rename_i vs
    refine ⟨v, q, vs, Gx, h1, h2, hq, hs, hs.length, (List.nodup_cons.mp h5).2, fun a ha => h6 a (List.mem_cons_of_mem _ ha), fun H2 vs' xs' Gn s2 nd sub o2 => ?_⟩
    have U := h7 H2 Gn [] (.lst vs') rfl s2 (by rw [List.append_nil]; exact nd) sub (fun _ z => nomatch z)
    obtain ⟨ep, fr⟩ := U.done (.lst true xs') (.lstO upd_same (U.kids _ _ o2))
    exact ⟨_, ep.er, fr⟩
theorem sm_ext (ha : Pt X cl a i p) (he : Se X cl e f) {pos2 : Pos} (hs : swapsWith (.Call (.Attribute a "extend" apos) [e] [] pos) none pos2.line X.env = pure false := by rfl)
    (hpe : ∀ {ta : TE} {t : TA}, PE X a ta → PA X [e] t → PE X (.Call (.Attribute a "extend" apos) [e] [] pos) (tBM X.K "list" rExtend ta t) := by
      intro ta t h1 h2; exact pe_bm PySem.F.plainAttrs_list PySem.F.slot_list_extend PySem.F.type_list_extend mt_extend h1 h2)
    (h1 : starEach [e] X.env = (false, eval e X.env) :: starEach [] X.env := by rfl) : Sm X cl io (.Expr (.Call (.Attribute a "extend" apos) [e] [] pos) pos2) (sExt i p f) := ⟨fun R F env fl q σ H E D k => by
  unfold sExt at q
  obtain ⟨l, e1, q1⟩ := bind1 q
  split at q1
  · rename_i xs hg
    obtain ⟨d, e2, q2⟩ := bind1 q1
    split at q2
    · rename_i o ys
      split at q2
      · rename_i hz
        cases q2
        obtain ⟨v, q, vs, Gx, g1, g2, g3, g4, g5, g6, g7, g8⟩ := list_new E hg
        refine wS.of (ps_expr (hpe pe_w (pa_cons pe_w pa_nil h1)) hs) ?_
        refine ha.run _ env l e1 σ H E.ev E.vd' v _ g1 g2 _ fun H1 s1 => ?_
        refine ⟨.inl ⟨rfl, _, SqL.of (s1 _ _ g3)⟩, ?_⟩
        refine he.run _ env _ e2 σ H1 (E.ev.mono s1) (E.vd'.mono s1) _ fun u H2 Gy s2 o2 n2 f2 => ?_
        have s := s1.trans s2
        obtain ⟨b, zs, Gz, rfl, hb, hz', sub, nzi⟩ := own_lstN o2
        have nz : Gz.Nodup := nzi n2
        refine ⟨q, b, vs, zs, rfl, rfl, s _ _ g3, hb, by rw [g5, hz'.length, ← line_eq]; exact hz, ?_⟩
        obtain ⟨F', er, fr⟩ := g8 H2 (vs ++ zs) (xs ++ ys) (Gx ++ Gz) s (List.nodup_append.mpr ⟨g6, nz, fun x hx y hy z => E.sl.tracked x (g7 x hx) (by rw [z]; exact Same.back s1 (f2 y (sub y hy)))⟩)
          (fun x hx => (List.mem_append.mp hx).elim .inl fun z => .inr (Same.back s1 (f2 x (sub x z))))
          (Owns.append (g4.growS s fun x hx => by
            simp only [List.mem_append] at hx ⊢
            rcases hx with (z | z) | z | z
            · exact .inl (.inr (g7 x z))
            · exact .inr (Same.back s1 (f2 x (sub x z)))
            · exact .inl (.inl z)
            · exact .inl (.inr z)) (hz'.weak fun x hx => by
            simp only [List.mem_append] at hx ⊢
            rcases hx with (z | z) | z | z
            · exact .inr (.inr (g7 x z))
            · exact .inl (sub x z)
            · exact .inr (.inl z)
            · exact .inr (.inr z)))
        exact k σ _ _ er fr Pin.refl
      · cases q2
    · cases q2
  · cases q1⟩
theorem sm_rev (ha : Pt X cl a i p) {pos2 cpos : Pos} (hs : swapsWith (.Call (.Attribute a "reverse" apos) [] [] cpos) none pos2.line X.env = pure false := by rfl) (hbase : attributeBase a "reverse" X.env (eval a X.env) = eval a X.env := by rfl) (hline : (apos.endLine == cpos.line) = true := by rfl) :
    Sm X cl io (.Expr (.Call (.Attribute a "reverse" apos) [] [] cpos) pos2) (sRev i p) := ⟨fun R F env fl q σ H E D k => by
  unfold sRev at q
  obtain ⟨l, e1, q1⟩ := bind1 q
  split at q1
  · rename_i xs hg
    split at q1
    · rename_i hsh
      cases q1
      obtain ⟨v, q, vs, Gx, g1, g2, g3, g4, g5, g6, g7, g8⟩ := list_new E hg
      refine wS.of (ps_expr (pe_bm0 PySem.F.plainAttrs_list PySem.F.slot_list_reverse PySem.F.type_list_reverse mt_reverse pe_w hbase hline) hs) ?_
      refine ha.run _ env l e1 σ H E.ev E.vd' v _ g1 g2 _ fun H1 s1 => ?_
      refine ⟨.inl ⟨rfl, _, SqL.of (s1 _ _ g3)⟩, q, vs, rfl, rfl, s1 _ _ g3, ?_⟩
      obtain ⟨F', er, fr⟩ := g8 H1 vs.reverse xs.reverse [] s1 List.nodup_nil (fun _ z => nomatch z) ((g4.shs hsh).shsR.mono s1)
      exact k σ _ _ er fr Pin.refl
    · cases q1
  · cases q1⟩
theorem sm_clr (ha : Pt X cl a i p) {pos2 cpos : Pos} (hs : swapsWith (.Call (.Attribute a "clear" apos) [] [] cpos) none pos2.line X.env = pure false := by rfl) (hbase : attributeBase a "clear" X.env (eval a X.env) = eval a X.env := by rfl) (hline : (apos.endLine == cpos.line) = true := by rfl) :
    Sm X cl io (.Expr (.Call (.Attribute a "clear" apos) [] [] cpos) pos2) (sClr i p) := ⟨fun R F env fl q σ H E D k => by
  unfold sClr at q
  obtain ⟨l, e1, q1⟩ := bind1 q
  split at q1
  · rename_i xs hg
    cases q1
    obtain ⟨v, q, vs, Gx, g1, g2, g3, g4, g5, g6, g7, g8⟩ := list_new E hg
    refine wS.of (ps_expr (pe_bm0 PySem.F.plainAttrs_list PySem.F.slot_list_clear PySem.F.type_list_clear mt_clear pe_w hbase hline) hs) ?_
    refine ha.run _ env l e1 σ H E.ev E.vd' v _ g1 g2 _ fun H1 s1 => ?_
    refine ⟨.inl ⟨rfl, _, SqL.of (s1 _ _ g3)⟩, q, vs, rfl, rfl, s1 _ _ g3, ?_⟩
    obtain ⟨F', er, fr⟩ := g8 H1 [] [] [] s1 List.nodup_nil (fun _ z => nomatch z) .nil
    exact k σ _ _ er fr Pin.refl
  · cases q1⟩
theorem sm_augN (i : Nat) {x : Str} {pos' : Pos} (nd : X.N.Nodup) (he : Pk X cl e f) (hi : X.N[i]? = some x := by rfl) (hx : Loc X.env.scope x := by first | exact Or.inl rfl | exact Or.inr rfl) (hf : X.fn x = true ∨ X.env.scope.names.lookup x = some .local := by first | exact .inl rfl | exact .inr rfl | assumption) (hio : i ∉ io := by decide) :
    Sm X cl io (.AugAssign (.Name x pos') .Add e pos) (sAugN i f) := ⟨fun R F env fl q σ H E D k => by
  unfold sAugN at q
  split at q
  · rename_i z hz
    split at q
    · rename_i w hw
      cases q
      obtain ⟨v, G, h1, h2⟩ := E.ev.at_ i _ hz (by intro z; cases z)
      cases own_int h2
      refine wS.of (ps_aug nd hi hx pe_w ip_add hf) ⟨_, h1, ?_⟩
      refine he.run _ env _ hw σ H E.ev E.vd' _ fun u H1 G1 s1 o1 => ?_
      cases own_int o1
      refine ⟨z, w, rfl, rfl, ?_⟩
      obtain ⟨F', er, fr⟩ := E.set (G := []) (by exact (List.getElem?_eq_some_iff.mp hz).1) s1 (.int (z + w)) List.nodup_nil (fun _ z => nomatch z)
      exact k _ _ _ er fr (Pin.set hio)
    · cases q
  · cases q⟩
theorem getL : PGet X (rIxL X.K) := by
  intro pins s σ H x y v u Q I rx ry h
  obtain ⟨p, xs, i, z, rfl, rfl, hq, he, q⟩ := h
  cases rx
  obtain ⟨t, rfl⟩ := ry
  obtain ⟨its, r, pl, hz⟩ := I.list hq
  obtain ⟨j, h1, h2, h3, h4, h5⟩ := atI_get he
  obtain ⟨w, ew, rw'⟩ := r.get h2
  have hl := r.length
  have hn := line63
  have fin : L2.EP X pins σ Q w s := ⟨z, H, I, rw', q⟩
  by_cases h0 : 0 ≤ i
  · have hj : i.toNat = j := by
      rw [PySem.seqIndex_of h0 h5] at h1
      exact Option.some.inj h1
    exact PySem.wpAny_getItem_list pl.isList h0 (by omega) (by rw [hj]; simpa using ew) fin
  · have hj : (i + (its.toArray.size : Int)).toNat = j := by
      rw [PySem.seqIndex_neg (by omega) h4] at h1
      rw [List.size_toArray, ← hl]
      exact Option.some.inj h1
    exact PySem.wpAny_getItem_list_neg pl.isList (by omega) (by rw [List.size_toArray] <;> omega) (by omega) (by rw [hj]; simpa using ew) fin
theorem sm_augS (ha : Pt X cl a i p) (hb : Pk X cl b g) (he : Pk X cl e f) {tpos : Pos} (hau : ∀ ov iv new, augStore b ov iv new = (do holding [new, ov, iv] (setItem ov iv new); release [new, ov, iv] []; pure .next) := by intros; rfl) : Sm X cl io (.AugAssign (.Subscript a b tpos) .Add e pos) (sAugS i p g f) := ⟨fun R F env fl q σ H E D k => by
  unfold sAugS at q
  obtain ⟨l, e1, q1⟩ := bind1 q
  split at q1
  · rename_i xs hg
    split at q1
    · rename_i z e2
      obtain ⟨j, ej, q2⟩ := bind1 q1
      split at q2
      · rename_i n en
        split at q2
        · rename_i m' e3
          cases q2
          obtain ⟨v, q, vs, Gx, g1, g2, g3, g4, g5, g6, g7, g8⟩ := list_new E hg
          refine wS.of (ps_augS pe_w pe_w getL pe_w ip_add set_list hau) ?_
          refine ha.run _ env l e1 σ H E.ev E.vd' v _ g1 g2 _ fun H1 s1 => ?_
          refine hb.run _ env _ e2 σ H1 (E.ev.mono s1) (E.vd'.mono s1) _ fun u H2 G2 s2 o2 => ?_
          cases own_int o2
          have s12 := s1.trans s2
          obtain ⟨w, G, A, B, k1, k2, k3, k4⟩ := g4.zoom en
          cases own_int k3
          refine ⟨q, vs, z, .int n, rfl, rfl, SqL.of (s12 _ _ g3), ?_, ?_⟩
          · show (ixN vs.length z).bind _ = _
            rw [g5, show ixN xs.length z = some j from ej]
            exact k1
          refine he.run _ env _ e3 σ H2 (E.ev.mono s12) (E.vd'.mono s12) _ fun u3 H3 G3 s3 o3 => ?_
          cases own_int o3
          have s123 := s12.trans s3
          refine ⟨n, m', rfl, rfl, q, vs, z, j, rfl, rfl, s123 _ _ g3, by rw [g5]; exact ej, ?_⟩
          have sub : ∀ x ∈ A ++ ([] ++ B), x ∈ Gx := fun x hx => by
            rw [k2]
            simp only [List.nil_append, List.mem_append] at hx ⊢
            rcases hx with z | z <;> simp [z]
          obtain ⟨F', er, fr⟩ := g8 H3 (vs.set j (.int (n + m'))) (xs.set j (.int (n + m'))) (A ++ ([] ++ B)) s123 (by
            rw [k2] at g6
            have n1 := List.nodup_append.mp g6
            have n2 := List.nodup_append.mp n1.2.1
            exact List.nodup_append.mpr ⟨n1.1, n2.2.1, fun x hx y hy => n1.2.2 x hx y (List.mem_append_right _ hy)⟩) (fun x hx => .inl (sub x hx))
            (k4 _ H3 (.int (n + m')) (.int (n + m')) [] ⟨fun x _ o h => s123 _ _ h, fun x o _ h => s123 _ _ h, fun x vs h => s123 _ _ h, fun x o u h => s123 _ _ h, fun x hx _ z => by
              rcases List.mem_append.mp z with z | z
              · exact hx (List.mem_append_right _ (g7 x (sub x z)))
              · exact hx z⟩ (.int _))
          exact k σ _ _ er fr Pin.refl
        · cases q2
      · cases q2
    · cases q1
  · cases q1⟩
end
end Tg

namespace Tg
open PySem PySem.Spec L2 RT RZ
/-! ### a list or a tuple taken apart -/
def tgX (ts : List TgT) : TgT := fun d env => match d with
  | .tup xs => tgs ts xs env
  | .lst _ xs => tgs ts xs env
  | _ => none
section
variable {X : Cx} {cl : Cl} {io : List Nat} {a b c e tg : Expr} {f g h : EE} {pos apos : Pos} {i : Nat} {p : EP1} {t0 : TgT} {m : EM}
theorem tt_tupX {es : List Expr} {k0 : Nat} {ts : List TgT} {n : Nat} (h : Tts X cl io es ts) (hc : X.calm = true := by rfl) (hn : (assignEach es X.env).length = n := by rfl) (hst : (assignEach es X.env).findIdx? (·.1) = none := by rfl) (hl : ts.length = n := by rfl) : Tt X cl io (.Tuple es k0 pos) (tgX ts) := ⟨fun R G F env env' d q σ H v E o Q k => by
  unfold tgX at q
  split at q
  · rename_i xs
    obtain ⟨p, vs, rfl, hp, hs⟩ := own_tup o
    refine wG.of (pg_tup hc pgs_w hn hst) ⟨p, vs, rfl, hp, ?_, ?_⟩
    · rw [hs.length, ← hl]
      exact tgs_len q
    · obtain ⟨t, ht, qt⟩ := h.run R G F env env' xs q σ H vs E hs Q k
      exact wGs.of ht qt
  · rename_i ob xs
    obtain ⟨p, vs, Gx, rfl, hp, hs, sub, nd⟩ := own_lstN o
    refine wG.of (pg_unl hc pgs_w hn hst) ⟨p, vs, rfl, SqL.of hp, ?_, ?_⟩
    · rw [hs.length, ← hl]
      exact tgs_len q
    · have E' : EP X.K cl R Gx F σ H env := ⟨E.sl.keep (Keep.re (K := X.K) fun x hx _ z => hx (by
        simp only [List.mem_append] at z ⊢
        rcases z with z | z | z
        · exact .inl (sub x z)
        · exact .inr (.inl z)
        · exact .inr (.inr z))), E.nd, E.ap, E.vd, nd E.gn, fun x hx => E.gr x (sub x hx), fun x hx => E.gt x (sub x hx), E.tabs⟩
      obtain ⟨t, ht, qt⟩ := h.run R Gx F env env' xs q σ H vs E' (hs.weak fun x hx => by
        simp only [List.mem_append] at hx ⊢
        rcases hx with z | z | z
        · exact .inl (sub x z)
        · exact .inr (.inl z)
        · exact .inr (.inr z)) Q fun σ' F' er sb pin => k σ' F' er (fun x hx => (sb x hx).elim .inl fun z => .inr (sub x z)) pin
      exact wGs.of ht qt
  · cases q⟩
/-! ### fields stored -/
theorem Owns.putF {K : PySem.W.Frag} {W : List Addr} {H : Hp} {fl : Str} {u : V} {y : Tg.D} {Gy : List Addr} (oy : Own K cl W H u y Gy) : ∀ {vfs : List (Str × V)} {fs : List (Str × Tg.D)} {G0 : List Addr}, vfs.map (·.1) = fs.map (·.1) → Owns K cl W H (vfs.map (·.2)) (fs.map (·.2)) G0 →
    ∃ Gn, (L2.putF fl u vfs).map (·.1) = (putFD fl y fs).map (·.1) ∧ Owns K cl W H ((L2.putF fl u vfs).map (·.2)) ((putFD fl y fs).map (·.2)) Gn ∧ (∀ x ∈ Gn, x ∈ G0 ∨ x ∈ Gy) ∧ ((G0 ++ Gy).Nodup → Gn.Nodup)
  | [], [], _, _, .nil => ⟨Gy ++ [], rfl, .cons oy .nil, fun x hx => .inr (by simpa using hx), fun h => by simpa using h⟩
  | [], _ :: _, _, e, _ => by simp at e
  | _ :: _, [], _, e, _ => by simp at e
  | (g, x) :: r, (g', x') :: r', _, e, o => by
    have hh : g = g' ∧ r.map (·.1) = r'.map (·.1) := by simpa using e
    obtain ⟨rfl, hr⟩ := hh
    cases o with
    | cons o os =>
      rename_i G1 G2
      by_cases hf : g = fl
      · refine ⟨Gy ++ G2, ?_, ?_, fun z hz => ?_, fun hn => ?_⟩
        · unfold L2.putF putFD
          rw [if_pos hf, if_pos hf]
          simp [hf, hr]
        · unfold L2.putF putFD
          rw [if_pos hf, if_pos hf]
          exact .cons oy os
        · rcases List.mem_append.mp hz with z' | z'
          · exact .inr z'
          · exact .inl (List.mem_append_right _ z')
        · have n := List.nodup_append.mp hn
          exact List.nodup_append.mpr ⟨n.2.1, (List.nodup_append.mp n.1).2.1, fun a ha b hb z => n.2.2 b (List.mem_append_right _ hb) a ha z.symm⟩
      · obtain ⟨Gn, h1, h2, h3, h4⟩ := Owns.putF (fl := fl) oy hr os
        refine ⟨G1 ++ Gn, ?_, ?_, fun z hz => ?_, fun hn => ?_⟩
        · unfold L2.putF putFD
          rw [if_neg hf, if_neg hf]
          simp [h1]
        · unfold L2.putF putFD
          rw [if_neg hf, if_neg hf]
          exact .cons o h2
        · rcases List.mem_append.mp hz with z' | z'
          · exact .inl (List.mem_append_left _ z')
          · exact (h3 z z').elim (fun w => .inl (List.mem_append_right _ w)) .inr
        · have n := List.nodup_append.mp hn
          have n1 := List.nodup_append.mp n.1
          refine List.nodup_append.mpr ⟨n1.1, h4 (List.nodup_append.mpr ⟨n1.2.1, n.2.1, fun a ha b hb => n.2.2 a (List.mem_append_right _ ha) b hb⟩), fun a ha b hb z => ?_⟩
          rcases h3 b hb with w | w
          · exact n1.2.2 a ha b w z
          · exact n.2.2 a (List.mem_append_left _ ha) b w z
theorem sm_setF {cc : Nat} {fl : Str} (he : Se X cl e f) (ha : Pt X cl a i p) (c : Cls X.K (cl cc)) (n : NoAttr X.K (cl cc) fl) {spos : Pos} (hs : swapsWith e (some (.Attribute a fl pos)) spos.line X.env = pure false := by rfl) :
    Sm X cl io (.Assign [.Attribute a fl pos] e spos) (sSetF i p cc fl f) := ⟨fun R F env fl' q σ H E D k => by
  unfold sSetF at q
  obtain ⟨y, e1, q0⟩ := bind1 q
  obtain ⟨l, e2, q1⟩ := bind1 q0
  split at q1
  · rename_i c' fs hg
    split at q1
    · rename_i hz
      obtain ⟨rfl, hlen⟩ := hz
      cases q1
      obtain ⟨v, q, Gx, F1, F2, h1, h2, h3, h4, h5, h6, h7⟩ := E.nodeU hg rfl
      cases h4 with
      | objO hq en hs' =>
        rename_i dx vfs
        have gx := (List.nodup_cons.mp h5).2
        refine wS.of (ps_fld pe_w pe_w hs) ?_
        refine he.run _ env y e1 σ H E.ev E.vd' _ fun u H1 Gy s1 o1 n1 f1 => ?_
        refine ha.run _ env l e2 σ H1 (E.ev.mono s1) (E.vd'.mono s1) v _ h1 (h2.mono s1) _ fun H2 s2 => ?_
        have s := s1.trans s2
        have hl : vfs.length = fs.length := by
          have := congrArg List.length en
          simpa using this
        refine ⟨q, cl cc, dx, vfs, rfl, s _ _ hq, c, n, by rw [hl]; exact hlen, ?_⟩
        -- the fields behind it
        have gnF : ∀ x ∈ Gx, x ∈ F := fun x hx => h6 x (List.mem_cons_of_mem _ hx)
        have w1 : Owns X.K cl ((Gx ++ Gy) ++ (R ++ F)) H2 (vfs.map (·.2)) (fs.map (·.2)) Gx := hs'.growS s fun x hx => by
          simp only [List.mem_append] at hx ⊢
          rcases hx with (z | z) | z | z
          · exact .inl (.inr (gnF x z))
          · exact .inr (f1 x z)
          · exact .inl (.inl z)
          · exact .inl (.inr z)
        have w2 : Own X.K cl ((Gx ++ Gy) ++ (R ++ F)) H2 u y Gy := (o1.mono s2).weak fun x hx => by
          simp only [List.mem_append] at hx ⊢
          rcases hx with (z | z) | z | z
          · exact .inr (.inr (gnF x z))
          · exact .inl z
          · exact .inr (.inl z)
          · exact .inr (.inr z)
        obtain ⟨Gn, k3, k4', k1, k2'⟩ := Owns.putF (fl := fl) w2 en w1
        have k2 : Gn.Nodup := k2' (List.nodup_append.mpr ⟨gx, n1, fun x hx y hy z => E.sl.tracked x (gnF x hx) (by rw [z]; exact f1 y hy)⟩)
        have k4 : Owns X.K cl (Gn ++ (R ++ F)) H2 ((putF fl u vfs).map (·.2)) ((putFD fl y fs).map (·.2)) Gn := k4'.weak fun x hx => by
          rcases List.mem_append.mp hx with z | z
          · exact List.mem_append_left _ (List.mem_append.mpr (k1 x z))
          · exact List.mem_append_right _ z
        have U := h7 H2 Gn [] (.ins (cl cc) dx (putF fl u vfs)) rfl s (by rw [List.append_nil]; exact k2) (fun x hx => (k1 x hx).elim .inl fun z => .inr (f1 x z)) (fun _ z => nomatch z)
        obtain ⟨ep, fr⟩ := U.done (.obj true cc (putFD fl y fs)) (.objO upd_same k3 (U.kids _ _ k4))
        exact k σ _ _ ep.er fr Pin.refl
    · cases q1
  · cases q1⟩
/-! ### what is walked -/
theorem ii_enum {elts : List Expr} {kk : Nat} {tpos p : Pos} (ha : Se X cl a f) (hg : Gl X "enumerate") (hm : X.mg "enumerate" = none) (h1 : starEach [a] X.env = (false, eval a X.env) :: starEach [] X.env := by rfl) (hs : starEach [a] X.env = [(false, eval a X.env)] := by rfl) :
    Ii X cl (.Tuple elts kk tpos) (.Call (.Name "enumerate" p) [a] [] pos) (iEnum f) := ⟨fun W env ds q σ H E V => by
  unfold iEnum at q
  obtain ⟨d, e1, q1⟩ := bind1 q
  split at q1
  · rename_i ob xs
    split at q1
    · rename_i hsh
      cases q1
      refine ⟨_, pi_enum hg hm (pa_cons pe_w pa_nil h1) hs, fun R k => ?_⟩
      refine ha.run W env _ e1 σ H E V _ fun v H1 F s1 o1 n1 f1 => ?_
      have nW : ∀ p vs, v = .ref p → H1 p = some (.lst vs) → p ∉ W := fun p vs e hp z => by
        cases o1 with
        | lstO h _ =>
          cases e
          exact V p z (f1 p List.mem_cons_self)
        | lstF h hn _ =>
          cases e
          exact hn (List.mem_append_right _ z)
      obtain ⟨p, vs, G, rfl, hp, hv, _⟩ := own_lst o1
      have hv' : Owns X.K cl W H1 vs xs [] := (hv.shs hsh).weak fun a ha => List.mem_append_right _ ha
      refine ⟨p, vs, rfl, SqL.of hp, ?_⟩
      have hl : ((List.range xs.length).zipWith (fun (k : Nat) x => Tg.D.tup [.int (k : Int), x]) xs).length = vs.length := by simp [hv.length]
      refine k (Ite X.K p) H1 (fun H => SqL X.K H p vs) _ s1 (by rw [hl]; exact walk_enum) (fun W2 H2 kp => SqL.of (kp.out _ _ (nW p vs rfl hp) hp)) fun i x H2 H3 W2 d kp y hd => ?_
      obtain ⟨T, x1, y1, rfl, hT, rfl, hx1, hy1⟩ := y
      cases hx1
      rw [List.getElem?_zipWith] at hd
      cases hi : xs[i]? with
      | none => rw [hi] at hd; simp at hd
      | some di =>
        have hil : i < xs.length := (List.getElem?_eq_some_iff.mp hi).1
        rw [hi] at hd
        simp [List.getElem?_range hil] at hd
        subst hd
        obtain ⟨w, Gw, g1, g2, g3⟩ := hv'.get hi
        have : Gw = [] := List.eq_nil_iff_forall_not_mem.mpr fun a ha => nomatch g3 a ha
        subst this
        have hy1' : vs[i]? = some y1 := hy1
        rw [hy1'] at g1
        cases g1
        refine ⟨same_new hT, .tup upd_same (Owns.cons (F := []) (G := []) (.int _) (Owns.cons (F := []) (G := []) ((g2.keep kp).mono (same_new hT)) .nil))⟩
    · cases q1
  · cases q1⟩
theorem own_notW {K : PySem.W.Frag} {W F : List Addr} {H H1 : Hp} {v : L2.V} {ob : Bool} {xs : List Tg.D} (hV : VD W H) (o1 : Own K cl (F ++ W) H1 v (.lst ob xs) F) (f1 : ∀ a ∈ F, H a = none) : ∀ p vs, v = .ref p → H1 p = some (.lst vs) → p ∉ W := fun p vs e hp z => by
  cases o1 with
  | lstO h _ =>
    cases e
    exact hV p z (f1 p List.mem_cons_self)
  | lstF h hn _ =>
    cases e
    exact hn (List.mem_append_right _ z)
def iRevD (f : EE) : It := fun env => (f env).bind fun d => match d with
  | .lst _ xs => if D.shs xs then some xs.reverse else none
  | .tup xs => if D.shs xs then some xs.reverse else none
  | _ => none
theorem walk_revT {K : PySem.W.Frag} {a : Addr} {xs : List V} : Walk (ItvT K a xs.length) xs.length (fun H => SqT K H a xs) (fun i H x H' => H' = H ∧ xs[xs.length - 1 - i]? = some x) :=
  ⟨fun i _ hi q => ⟨hi, xs, xs[xs.length - 1 - i]'(by omega), q, by simp [show xs.length - 1 - i < xs.length by omega]⟩, fun _ _ => Nat.le_refl _, fun _ _ _ _ _ q y => ⟨y.1, y.2 xs q⟩⟩
theorem ii_rev {p : Pos} (ha : Se X cl a f) (hg : Gl X "reversed") (hm : X.mg "reversed" = none) (h1 : starEach [a] X.env = (false, eval a X.env) :: starEach [] X.env := by rfl) :
    Ii X cl tg (.Call (.Name "reversed" p) [a] [] pos) (iRevD f) := ⟨fun W env ds q σ H E V => by
  unfold iRevD at q
  obtain ⟨d, e1, q1⟩ := bind1 q
  have rv : ∀ {vs : List L2.V} {xs : List Tg.D} {n i : Nat} {d : Tg.D}, vs.length = xs.length → xs.reverse[i]? = some d → i < xs.length ∧ xs[xs.length - 1 - i]? = some d := fun {vs xs n i d} hl hd => by
    have hi : i < xs.length := by
      have := (List.getElem?_eq_some_iff.mp hd).1
      simpa using this
    rw [List.getElem?_reverse hi] at hd
    exact ⟨hi, hd⟩
  split at q1
  · rename_i ob xs
    split at q1
    · rename_i hsh
      cases q1
      refine ⟨_, pi_revA hg hm pe_w h1, fun R k => ?_⟩
      refine ha.run W env _ e1 σ H E V _ fun v H1 F s1 o1 n1 f1 => ?_
      have nW := own_notW V o1 f1
      obtain ⟨p, vs, G, rfl, hp, hv, _⟩ := own_lst o1
      have hv' : Owns X.K cl W H1 vs xs [] := (hv.shs hsh).weak fun a ha => List.mem_append_right _ ha
      refine ⟨p, vs, rfl, .inl ⟨SqL.of hp, ?_⟩⟩
      refine k (Itv X.K p vs.length) H1 (fun H => SqL X.K H p vs) _ s1 (by rw [List.length_reverse, ← hv.length]; exact walk_rev) (fun W2 H2 kp => SqL.of (kp.out _ _ (nW p vs rfl hp) hp)) fun i x H2 H3 W2 d kp y hd => ?_
      obtain ⟨rfl, hx⟩ := y
      obtain ⟨hi, hd'⟩ := rv (n := 0) hv.length hd
      obtain ⟨w, Gw, g1, g2, g3⟩ := hv'.get hd'
      have : Gw = [] := List.eq_nil_iff_forall_not_mem.mpr fun a ha => nomatch g3 a ha
      subst this
      rw [hv.length, g1] at hx
      cases hx
      exact ⟨Same.refl _, g2.keep kp⟩
    · cases q1
  · rename_i xs
    split at q1
    · rename_i hsh
      cases q1
      refine ⟨_, pi_revA hg hm pe_w h1, fun R k => ?_⟩
      refine ha.run W env _ e1 σ H E V _ fun v H1 F s1 o1 n1 f1 => ?_
      obtain ⟨p, vs, rfl, hp, hv⟩ := own_tup o1
      have hv' : Owns X.K cl W H1 vs xs [] := (hv.shs hsh).weak fun a ha => List.mem_append_right _ ha
      refine ⟨p, vs, rfl, .inr ⟨hp, ?_⟩⟩
      refine k (ItvT X.K p vs.length) H1 (fun H => SqT X.K H p vs) _ s1 (by rw [List.length_reverse, ← hv.length]; exact walk_revT) (fun W2 H2 kp => kp.sqt hp) fun i x H2 H3 W2 d kp y hd => ?_
      obtain ⟨rfl, hx⟩ := y
      obtain ⟨hi, hd'⟩ := rv (n := 0) hv.length hd
      obtain ⟨w, Gw, g1, g2, g3⟩ := hv'.get hd'
      have : Gw = [] := List.eq_nil_iff_forall_not_mem.mpr fun a ha => nomatch g3 a ha
      subst this
      rw [hv.length, g1] at hx
      cases hx
      exact ⟨Same.refl _, g2.keep kp⟩
    · cases q1
  · cases q1⟩
end
end Tg

namespace Tg
open PySem PySem.Spec L2 RT RZ
/-! ### frozen from then on; lent for a statement; forgotten -/
def sFzA (i : Nat) (s : SS) : SS := fun env => match s env with
  | some (.nx e) => match e[i]? with
    | some d => some (.nx (e.set i d.fz))
    | none => some (.nx e)
  | r => r
def clrD (is : List Nat) (env : Env) : Env := wipD env is
def sClrA (is : List Nat) (s : SS) : SS := fun env => match s env with
  | some (.nx e) => some (.nx (clrD is e))
  | some (.ct e) => some (.ct (clrD is e))
  | r => r
/-- behind a statement for which slot j was lent; ks: the slots that it does not store -/
def back1 (j : Nat) (d : D) (ks : List Nat) (env0 : Env) : Nat → Env → Env
  | _, [] => []
  | n, x :: r => (if n = j then d else if n ∈ ks ∧ (env0.getD n .hole).sh = true then env0.getD n .hole else if x.nf then x else .hole) :: back1 j d ks env0 (n + 1) r
def sLend (j : Nat) (ks : List Nat) (s : SS) : SS := fun env => match env[j]? with
  | some d => match s (env.set j d.fz) with
    | some (.nx e) => some (.nx (back1 j d ks env 0 e))
    | some (.bk e) => some (.bk (back1 j d ks env 0 e))
    | some (.ct e) => some (.ct (back1 j d ks env 0 e))
    | some (.rt r e) => if r.nf then some (.rt r (back1 j d ks env 0 e)) else some (.rt r e)
    | none => none
  | none => none
section
variable {X : Cx} {cl : Cl} {io : List Nat} {a b c e tg : Expr} {f g h : EE} {pos apos : Pos} {i j : Nat} {p : EP1} {t0 : TgT} {m : EM} {st : Stmt} {s : SS}
theorem sm_fzA (h1 : Sm X cl io st s) : Sm X cl io st (sFzA i s) := ⟨fun R F env fl q σ H E D k => by
  unfold sFzA at q
  cases e1 : s env with
  | none => rw [e1] at q; cases q
  | some fl1 =>
    rw [e1] at q
    cases fl1 with
    | nx e' =>
      have q' : (match e'[i]? with
        | some d => some (Fl.nx (e'.set i d.fz))
        | none => some (.nx e')) = some fl := q
      cases hd : e'[i]? with
      | none =>
        rw [hd] at q'
        cases q'
        exact h1.run R F env _ e1 σ H E D k
      | some d =>
        rw [hd] at q'
        cases q'
        refine h1.run R F env _ e1 σ H E D fun σ' H' F' er fr pn => ?_
        obtain ⟨F'', E', sub⟩ := er.fz hd
        exact k σ' H' F'' E' (fr.mono fun a ha => .inl (sub a ha)) pn
    | bk e' => cases q; exact h1.run R F env _ e1 σ H E D k
    | ct e' => cases q; exact h1.run R F env _ e1 σ H E D k
    | rt d e' => cases q; exact h1.run R F env _ e1 σ H E D k⟩
/-- a slot forgotten -/
theorem ER.forget {K : PySem.W.Frag} {R F : List Addr} {H : Hp} {σ : St} {env : Env} (E : ER K cl R F σ H env) (i : Nat) : ∃ F', ER K cl R F' σ H (env.set i .hole) ∧ ∀ a ∈ F', a ∈ F := by
  by_cases hi : i < env.length
  · obtain ⟨d0, hd0⟩ : ∃ d0, env[i]? = some d0 := ⟨_, List.getElem?_eq_getElem hi⟩
    obtain ⟨o1, G1, F1, F2, h1, h2, h3, h4⟩ := E.sl.zoom hd0
    have nd := E.nd
    rw [h2] at nd
    have sub : ∀ a ∈ F1 ++ F2, a ∈ F := fun a ha => by rw [h2]; simp only [List.mem_append] at ha ⊢; rcases ha with z | z <;> simp [z]
    have r := h4 (R ++ (F1 ++ F2)) H o1 .hole [] (Keep.re (K := K) fun a ha _ z => ha (by
      rcases List.mem_append.mp z with z | z
      · exact List.mem_append_left _ z
      · exact List.mem_append_right _ (sub a z))) (.inl ⟨rfl, rfl⟩)
    rw [set_self h1] at r
    have n1 := List.nodup_append.mp nd
    exact ⟨F1 ++ F2, ⟨r, List.nodup_append.mpr ⟨n1.1, (List.nodup_append.mp n1.2.1).2.1, fun a ha b hb => n1.2.2 a ha b (List.mem_append_right _ hb)⟩, fun a ha => E.ap a (sub a ha), E.vd, E.tabs⟩, sub⟩
  · rw [List.set_eq_of_length_le (by omega)]
    exact ⟨F, E, fun a ha => ha⟩
theorem ER.forgets {K : PySem.W.Frag} {R F : List Addr} {H : Hp} {σ : St} {env : Env} (E : ER K cl R F σ H env) : ∀ is : List Nat, ∃ F', ER K cl R F' σ H (clrD is env) ∧ ∀ a ∈ F', a ∈ F
  | [] => ⟨F, E, fun a ha => ha⟩
  | i :: is => by
    obtain ⟨F1, E1, s1⟩ := ER.forgets E is
    obtain ⟨F2, E2, s2⟩ := E1.forget i
    exact ⟨F2, E2, fun a ha => s1 a (s2 a ha)⟩
theorem sm_clrA {is : List Nat} (h1 : Sm X cl io st s) : Sm X cl io st (sClrA is s) := ⟨fun R F env fl q σ H E D k => by
  unfold sClrA at q
  cases e1 : s env with
  | none => rw [e1] at q; cases q
  | some fl1 =>
    rw [e1] at q
    cases fl1 with
    | nx e' =>
      cases q
      refine h1.run R F env _ e1 σ H E D fun σ' H' F' er fr pn => ?_
      obtain ⟨F'', E', sub⟩ := er.forgets is
      exact k σ' H' F'' E' (fr.mono fun a ha => .inl (sub a ha)) pn
    | ct e' =>
      cases q
      refine h1.run R F env _ e1 σ H E D fun σ' H' F' er fr pn => ?_
      obtain ⟨F'', E', sub⟩ := er.forgets is
      exact k σ' H' F'' E' (fr.mono fun a ha => .inl (sub a ha)) pn
    | bk e' => cases q; exact h1.run R F env _ e1 σ H E D k
    | rt d e' => cases q; exact h1.run R F env _ e1 σ H E D k⟩
end
/-! a block with the loop's own names forgotten at its end -/
def sClrB (is : List Nat) (s : SS) : SS := sClrA is s
theorem sb_clr {X : Cx} {cl : Cl} {io is : List Nat} {sts : List Stmt} {s : SS} (h1 : Sb X cl io sts s) : Sb X cl io sts (sClrB is s) := ⟨fun R F env fl q σ H E D k => by
  unfold sClrB sClrA at q
  cases e1 : s env with
  | none => rw [e1] at q; cases q
  | some fl1 =>
    rw [e1] at q
    cases fl1 with
    | nx e' =>
      cases q
      refine h1.run R F env _ e1 σ H E D fun σ' H' F' er fr pn => ?_
      obtain ⟨F'', E', sub⟩ := er.forgets is
      exact k σ' H' F'' E' (fr.mono fun a ha => .inl (sub a ha)) pn
    | ct e' =>
      cases q
      refine h1.run R F env _ e1 σ H E D fun σ' H' F' er fr pn => ?_
      obtain ⟨F'', E', sub⟩ := er.forgets is
      exact k σ' H' F'' E' (fr.mono fun a ha => .inl (sub a ha)) pn
    | bk e' => cases q; exact h1.run R F env _ e1 σ H E D k
    | rt d e' => cases q; exact h1.run R F env _ e1 σ H E D k⟩
/-! ### the defs of a law -/
/-- a def's body at level k + 1 from what it calls -/
structure Fd where
  np : Nat
  ns : Nat
  io : List Nat
  body : (Nat → List D → Option (D × List D)) → (Nat → List D → Option (D × List D)) → SS
def lv (T : Nat → Fd) : Nat → (Nat → List D → Option (D × List D)) × (Nat → List D → Option (D × List D))
  | 0 => (fun _ _ => none, fun _ _ => none)
  | k + 1 => (fun j ds => runFn (T j).np (T j).ns (T j).io ((T j).body (lv T k).1 (lv T k).2) ds, (lv T k).1)
def callAt (T : Nat → Fd) (k : Nat) : Nat → List D → Option (D × List D) := (lv T k).1
def mkAt (T : Nat → Fd) (k : Nat) : Nat → List D → Option (D × List D) := (lv T k).2
theorem callAt_succ (T : Nat → Fd) (k j : Nat) (ds : List D) : callAt T (k + 1) j ds = runFn (T j).np (T j).ns (T j).io ((T j).body (callAt T k) (mkAt T k)) ds := rfl
theorem mkAt_succ (T : Nat → Fd) (k : Nat) : mkAt T (k + 1) = callAt T k := rfl
theorem runFn_len {np ns : Nat} {io : List Nat} {body : SS} {ds : List D} {r : D × List D} (h : runFn np ns io body ds = some r) : ds.length = np := by
  unfold runFn at h
  split at h
  · assumption
  · cases h
theorem callAt_len {T : Nat → Fd} : ∀ {k j : Nat} {ds : List D} {r : D × List D}, callAt T k j ds = some r → ds.length = (T j).np
  | 0, _, _, _, h => nomatch (show (none : Option (D × List D)) = some _ from h)
  | k + 1, j, ds, r, h => runFn_len (show runFn _ _ _ _ ds = some r from h)
section
variable {P : Program} {w : World} {K : PySem.W.Frag} {mg : Str → Option Value} {base : Heap} {cl : Cl} {x qual : Str} {params : Arguments} {stmts : List Stmt} {scope : Scope} {dvs : List V} {kws : List (Str × V)} {f : Addr} {fd : FuncData}
/-- a def keeps what its body's function tells: pure, or one parameter is changed -/
theorem fn_okC {N ps : List Str} {k np : Nat} {io : List Nat} {body : SS} (F : FunD K x qual params stmts scope dvs kws f fd) (S : FnScope N ps scope) (hnp : ps.length = np) (hio : io = [] ∨ ∃ i, io = [i] ∧ i < np)
    (hb : ∀ (cdv : Value), (∀ p : Str × Option Str, f = He.fAd K p → cdv = .ref (He.codeOf K p)) → ∀ (A : Around) (outer : List PySem.Env) (s : Shared) (H : Hp) (E : XK), Room k (A.deeper (PyProof.Rows.envOfC qual scope s.heap.objs.size f cdv)) → Sb (cxOf CX0 P w K mg base N qual scope f cdv A outer s H E).nox cl io stmts body) :
    FnOk P w K mg base CX0 (k + 1) f fd ps (spF K cl np io (runFn np N.length io body)) := by
  obtain ⟨oc, od, dV, kV, doc, pm, an, cdv, ct, osl, rfl, lk, hcd, _, _⟩ := F.ex
  refine fn_of lk hcd S (fun vs H Q E h => by rw [h.1, hnp]) (fun A outer s H vs Q E hr h => ?_)
  obtain ⟨hl, R, F0, ds, r, fin, ow, nd, ap, vd, tb, hs, k0⟩ := h
  have hX := hb cdv (fun p e => by
    obtain ⟨c, rfl⟩ := He.codeIn_ref hcd
    subst e
    rw [He.codeOf_eq lk rfl]) A outer s H E hr
  refine ⟨_, PSs.nox pb_w, ?_⟩
  unfold runFn at hs
  have hdl : ds.length = np := by rw [← ow.length, hl]
  rw [if_pos hdl] at hs
  have e0 : L2.start N vs = vs.map some ++ List.replicate (N.length - np) Option.none := by unfold L2.start; rw [hl]
  have er : ER K cl R F0 (L2.start N vs) H (ds ++ List.replicate (N.length - np) .hole) := ⟨by rw [e0]; exact sl_params _ ow, nd, ap, vd, tb⟩
  -- what is told of the changed parameter at the end
  have fins : ∀ (G F' : List Addr) (σ' : L2.St) (H' : Hp) (e : Env) (d : D), Sl K cl (G ++ (R ++ F')) H' σ' e F' → F'.Nodup → (∀ a ∈ G, a ∉ F') → (∀ i ∈ io, i < e.length) → Pin io (L2.start N vs) σ' →
      ∃ F'', Fins K cl (G ++ (R ++ F'')) H' vs io (io.map fun i => e.getD i .hole) F'' ∧ F''.Nodup ∧ ∀ a ∈ F'', a ∈ F' := fun G F' σ' H' e d sl nd' gf hlt pn => by
    rcases hio with rfl | ⟨i, rfl, hi⟩
    · exact ⟨[], .nil, List.nodup_nil, fun _ z => nomatch z⟩
    · have hil := hlt i (by simp)
      obtain ⟨o, Gi, A1, B1, z1, z2, z3, _⟩ := sl.zoom (List.getElem?_eq_getElem hil)
      have hv : ∃ u, vs[i]? = some u := ⟨_, List.getElem?_eq_getElem (by rw [hl]; exact hi)⟩
      obtain ⟨u, hu⟩ := hv
      have e1 : σ'[i]? = some (some u) := by
        rw [pn i (by simp), e0, List.getElem?_append_left (by rw [List.length_map, hl]; exact hi), List.getElem?_map, hu]
        rfl
      rw [z1] at e1
      cases e1
      have sub : ∀ a ∈ Gi, a ∈ F' := fun a ha => by rw [z2]; simp [ha]
      have ndi : Gi.Nodup := by
        rw [z2] at nd'
        exact (List.nodup_append.mp (List.nodup_append.mp nd').2.1).1
      have eD : e.getD i .hole = e[i] := by simp [List.getD_eq_getElem?_getD, List.getElem?_eq_getElem hil]
      have og : Own K cl (G ++ (R ++ F')) H' u e[i] Gi := by
        rcases z3 with ⟨z3, rfl⟩ | ⟨w, ew, z3⟩
        · rw [z3]; exact .hole u
        · cases ew; exact z3
      refine ⟨Gi ++ [], ?_, by rw [List.append_nil]; exact ndi, fun a ha => sub a (by simpa using ha)⟩
      show Fins K cl (G ++ (R ++ (Gi ++ []))) H' vs [i] [e.getD i .hole] (Gi ++ [])
      rw [eD]
      exact .cons hu (og.weak fun a ha => by
        simp only [List.append_nil, List.mem_append] at ha ⊢
        rcases ha with z | z | z
        · exact .inl z
        · exact .inr (.inl z)
        · exact .inr (.inr (sub a z))) .nil
  split at hs
  · rename_i d e e1
    split at hs
    · rename_i hall
      cases hs
      refine hX.run R F0 _ _ e1 _ H er _ fun v σ' H' F' G ep o fr pn => ?_
      obtain ⟨F'', h1, h2, h3⟩ := fins G F' σ' H' e .non ep.sl ep.nd (fun a ha => (ep.gr a ha).2) (fun i hi => by
        rw [List.all_eq_true] at hall
        have := hall i hi
        simpa using this) pn
      refine k0 v H' F'' G (o.weak fun a ha => ?_) h1 (List.nodup_append.mpr ⟨ep.gn, h2, fun a ha b hb z => (ep.gr a ha).2 (by rw [z]; exact h3 b hb)⟩) (fun a ha => ?_) (fr.mono fun a ha => .inl ?_)
      · simp only [List.mem_append] at ha ⊢
        rcases ha with z | z | z
        · exact .inl z
        · exact .inr (.inl z)
        · exact .inr (.inr (h3 a z))
      · rcases List.mem_append.mp ha with z | z
        · exact (ep.gr a z).1
        · exact ep.ap a (h3 a z)
      · rcases List.mem_append.mp ha with z | z
        · exact List.mem_append_left _ z
        · exact List.mem_append_right _ (h3 a z)
    · cases hs
  · rename_i e e1
    split at hs
    · rename_i hall
      cases hs
      refine hX.run R F0 _ _ e1 _ H er _ fun σ' H' F' er' fr pn => ?_
      obtain ⟨F'', h1, h2, h3⟩ := fins [] F' σ' H' e .non (er'.sl.keep (Keep.re (K := K) fun a ha _ z => ha (by simpa using z))) er'.nd (fun _ z => nomatch z) (fun i hi => by
        rw [List.all_eq_true] at hall
        have := hall i hi
        simpa using this) pn
      exact k0 .non H' F'' [] .non h1 (by simpa using h2) (fun a ha => er'.ap a (h3 a (by simpa using ha))) (fr.mono fun a ha => .inl (h3 a (by simpa using ha)))
    · cases hs
  · cases hs
end
/-- nothing is promised at level 0 -/
theorem fn_ok {P : Program} {w : World} {K : PySem.W.Frag} {mg : Str → Option Value} {base : Heap} {cl : Cl} {x qual : Str} {params : Arguments} {stmts : List Stmt} {scope : Scope} {dvs : List V} {kws : List (Str × V)} {f : Addr} {fd : FuncData} {N ps : List Str} {k np : Nat} {io : List Nat} {body : SS} (F : FunD K x qual params stmts scope dvs kws f fd) (S : FnScope N ps scope) (hnp : ps.length = np) (hio : io = [] ∨ ∃ i, io = [i] ∧ i < np)
    (hb : ∀ (cdv : Value) (A : Around) (outer : List PySem.Env) (s : Shared) (H : Hp) (E : XK), Room k (A.deeper (PyProof.Rows.envOfC qual scope s.heap.objs.size f cdv)) → Sb (cxOf CX0 P w K mg base N qual scope f cdv A outer s H E).nox cl io stmts body) :
    FnOk P w K mg base CX0 (k + 1) f fd ps (spF K cl np io (runFn np N.length io body)) := fn_okC F S hnp hio fun cdv _ => hb cdv
theorem fn_zero {P : Program} {w : World} {K : PySem.W.Frag} {mg : Str → Option Value} {base : Heap} {cl : Cl} {k np : Nat} {io : List Nat} {f : Addr} {fd : FuncData} {ps : List Str} : FnOk P w K mg base CX0 k f fd ps (spF K cl np io fun _ => none) :=
  ⟨(fun vs H Q E h => by
    obtain ⟨_, R, F, ds, r, fin, _, _, _, _, _, hs, _⟩ := h
    exact nomatch hs), (fun A outer s H args us vs Q E _ _ _ _ h => by
    obtain ⟨_, R, F, ds, r, fin, _, _, _, _, _, hs, _⟩ := h
    exact nomatch hs)⟩
end Tg

namespace Tg
open PySem PySem.Spec L2 RT RZ
section
variable {X : Cx} {cl : Cl} {io : List Nat} {elt tg iter : Expr} {ifs : List Expr} {scope : Scope} {own : List (Str × Nat)} {pos spos py : Pos} {f : EE}
/-- name = [.. for ..] -/
theorem sm_lc (i : Nat) {y : Str} (h : Lc X cl elt tg iter ifs scope (own.map (·.2)) f) (hN : X.N.Nodup) (ok : blkC X.N X.env.scope scope own = true) (hsw : swapsWith (.ListComp elt [⟨tg, iter, ifs, 0⟩] scope pos) (some (.Name y py)) spos.line X.env = pure true)
    (hy : X.N[i]? = some y := by rfl) (hyl : X.env.scope.names.lookup y = some .local := by rfl) (hio : i ∉ io := by decide) (hc : X.calm = true := by rfl) (hs : ∀ x, foldedSetIterable iter X.env x = pure x := by intro _; rfl) :
    Sm X cl io (.Assign [.Name y py] (.ListComp elt [⟨tg, iter, ifs, 0⟩] scope pos) spos) (sAsg f (tgN i)) := ⟨fun R F env fl q σ H E D k => by
  unfold sAsg at q
  obtain ⟨d, e1, q1⟩ := bind1 q
  unfold tgN at q1
  split at q1
  rotate_left
  · cases q1
  rename_i hl
  cases q1
  obtain ⟨wi, hw, ht⟩ := h.run _ env d e1 σ H E.ev E.vd' (fun x H1 => gName i x σ H1 D.nx) fun v H' G s1 o1 n1 f1 => by
    obtain ⟨F', E', fr⟩ := E.set hl s1 o1 n1 f1
    exact k _ H' F' E' fr (Pin.set hio)
  exact wS.of (ps_setLc (i := i) hc hN hy hyl hsw hw (blkOk_by ok) pga pqa pea hs) ht⟩
end
end Tg

namespace Tg
open PySem PySem.Spec L2 RT RZ
/-! ### calls, by what is read of the arguments -/
structure AR (X : Cx) (cl : Cl) (t : St → Hp → (List V → Hp → Prop) → Prop) (fs : EA) : Prop where
  run : ∀ (W : List Addr) (env : Env) (ds : List D), fs env = some ds → ∀ (σ : St) (H : Hp), EV X.K cl W H σ env → VD W H → ∀ Q : List V → Hp → Prop,
    (∀ vs H' F, Same H H' → Owns X.K cl (F ++ W) H' vs ds F → F.Nodup → (∀ a ∈ F, H a = none) → Q vs H') → t σ H Q
/-- a def that is called so: its promise, how its arguments come to it -/
structure CB (P : Program) (w : World) (K : PySem.W.Frag) (mg : Str → Option Value) (base : Heap) (cl : Cl) (k : Nat) (at_ : Addr → Prop) (sem : List D → Option (D × List D)) (io : List Nat) (np : Nat) (dfl : List D) : Prop where
  ex : ∃ f0 fd ps dvs ds, FnOk P w K mg base CX0 k f0 fd ps (spF K cl np io sem) ∧ at_ f0 ∧ Binds K fd ps ds ∧ Vals dvs ds ∧ ∀ W H, Owns K cl W H dvs dfl []
  len : ∀ ds r, sem ds = some r → ds.length = np
theorem CF.cb {P : Program} {w : World} {K : PySem.W.Frag} {mg : Str → Option Value} {base : Heap} {cl : Cl} {k np : Nat} {x : Str} {sem : List D → Option (D × List D)} {io : List Nat} {dfl : List D} (C : CF P w K mg base cl k x sem io np dfl) :
    CB P w K mg base cl k (fun f => mg x = some (.ref f) ∧ PySem.W.keepIn K (.ref f) = true) sem io np dfl := by
  obtain ⟨f0, fd, ps, dvs, ds, h1, h2, h3, h4, h5, h6⟩ := C.ex
  exact ⟨⟨f0, fd, ps, dvs, ds, h1, ⟨h2, h3⟩, h4, h5, h6⟩, C.len⟩
section
variable {X : Cx} {cl : Cl} {a b c e : Expr} {f g h : EE} {pos : Pos}
theorem callA_run {k np : Nat} {at_ : Addr → Prop} {sem : List D → Option (D × List D)} {dfl : List D} {t : St → Hp → (List V → Hp → Prop) → Prop} {fs : EA} (C : CB X.prog X.w X.K X.mg X.base cl k at_ sem [] np dfl) (ha : AR X cl t fs)
    (hp : ∀ sp dvs, (∃ f0 fd ps ds, FnOk X.prog X.w X.K X.mg X.base CX0 k f0 fd ps sp ∧ at_ f0 ∧ Binds X.K fd ps ds ∧ Vals dvs ds) → PE X e (fun σ H Q => t σ H fun vs H1 => sp (vs ++ dvs) H1 Q E0)) : Se X cl e (eCallP sem dfl fs) := ⟨fun W env d q σ H E V Q kq => by
  obtain ⟨f0, fd, ps, dvs, dsv, F, hat, hb, hd, hdf⟩ := C.ex
  have hpe := hp _ dvs ⟨f0, fd, ps, dsv, F, hat, hb, hd⟩
  refine wE.of hpe ?_
  unfold eCallP at q
  split at q
  · rename_i ds e1
    cases e2 : sem (D.fzs ds ++ dfl) with
    | none => rw [e2] at q; cases q
    | some rf =>
      rw [e2] at q
      cases q
      refine ha.run W env ds e1 σ H E V _ fun vs H1 G s1 o1 n1 f1 => ?_
      have o2 : Owns X.K cl (W ++ []) H1 (vs ++ dvs) (D.fzs ds ++ dfl) [] := by
        rw [List.append_nil]
        exact Owns.append (F := []) (G := []) (Owns.fz W o1 (fun a _ ha z => ha (List.mem_append_right _ z)) fun a ha z => V a z (f1 a ha)) (hdf W H1)
      refine ⟨by rw [o2.length, C.len _ _ e2], W, [], _, rf.1, rf.2, o2, List.nodup_nil, (fun _ z => nomatch z), V.mono s1, E.tabs.mono s1, e2, fun v H2 F' G' ow fi nd ap fr => ?_⟩
      cases fins0 fi
      have s2 : Same H1 H2 := fr.same0
      rw [List.append_nil] at nd ow
      exact kq v H2 G' (s1.trans s2) ow nd fun a ha => Same.back s1 ((fr.new a (by simpa using ha)).elim (fun z => nomatch z) id)
  · split at q
    · rename_i ds e1
      obtain ⟨rf, e2, q1⟩ := bind1 q
      split at q1
      · rename_i hnf
        cases q1
        refine ha.run [] (frz env) ds e1 σ H E.frz (fun _ z => nomatch z) _ fun vs H1 G s1 o1 n1 f1 => ?_
        have o2 : Owns X.K cl ([] ++ []) H1 (vs ++ dvs) (D.fzs ds ++ dfl) [] := Owns.append (F := []) (G := []) (Owns.fz [] o1 (fun a _ ha z => nomatch z) fun a ha z => nomatch z) (hdf [] H1)
        refine ⟨by rw [o2.length, C.len _ _ e2], [], [], _, rf.1, rf.2, o2, List.nodup_nil, (fun _ z => nomatch z), (fun _ z => nomatch z), E.tabs.mono s1, e2, fun v H2 F' G' ow fi nd ap fr => ?_⟩
        cases fins0 fi
        have s2 : Same H1 H2 := fr.same0
        rw [List.append_nil] at nd
        exact kq v H2 G' (s1.trans s2) (ow.nf _ hnf) nd fun a ha => Same.back s1 ((fr.new a (by simpa using ha)).elim (fun z => nomatch z) id)
      · cases q1
    · cases q⟩
/-! ### methods -/
/-- an object of the class c, whose own field m is not -/
def eObj (c : Nat) (m : Str) (f : EE) : EE := fun env => (f env).bind fun d => match d with
  | .obj o c' fs => if c = c' ∧ lookF m fs = none then some (.obj o c' fs) else none
  | _ => none
theorem lookF_none {m : Str} : ∀ {fs : List (Str × V)} {ds : List (Str × D)}, fs.map (·.1) = ds.map (·.1) → lookF m ds = none → fs.lookup m = none
  | [], [], _, _ => rfl
  | [], _ :: _, h, _ => by simp at h
  | _ :: _, [], h, _ => by simp at h
  | (g, v) :: fs, (g', e) :: ds, h, h2 => by
    have hh : g = g' ∧ fs.map (·.1) = ds.map (·.1) := by simpa using h
    obtain ⟨rfl, hr⟩ := hh
    unfold lookF at h2
    by_cases hf : m = g
    · rw [if_pos hf] at h2; cases h2
    · rw [if_neg hf] at h2
      rw [List.lookup_cons, show (m == g) = false by simpa using hf]
      exact lookF_none hr h2
abbrev tMa (X : Cx) (C : Addr) (m : Str) (o : Expr) (es : List Expr) : St → Hp → (List V → Hp → Prop) → Prop := fun σ H Q => wE X o σ H fun x H1 => ∃ a dx fs, x = .ref a ∧ H1 a = some (.ins C dx fs) ∧ fs.lookup m = none ∧ wA X es σ H1 fun vs H2 => Q (x :: vs) H2
theorem ar_meth {cc : Nat} {m : Str} {es : List Expr} {fs : EA} (ho : Se X cl a f) (h2 : Sa X cl es fs) : AR X cl (tMa X (cl cc) m a es) (eCons (eObj cc m f) fs) := ⟨fun W env ds q σ H E V Q k => by
  unfold eCons at q
  obtain ⟨d, e1, q1⟩ := bind1 q
  obtain ⟨dr, e2, q2⟩ := bind1 q1
  cases q2
  unfold eObj at e1
  obtain ⟨d0, e0, e1⟩ := bind1 e1
  split at e1
  · rename_i ob c' fds
    split at e1
    · rename_i hh
      obtain ⟨rfl, hm⟩ := hh
      cases e1
      refine ho.run W env _ e0 σ H E V _ fun v H1 F s1 o1 n1 f1 => ?_
      have key : ∃ a dx vfs, v = .ref a ∧ H1 a = some (.ins (cl cc) dx vfs) ∧ vfs.lookup m = none := by
        cases o1 with
        | objO h en hs => exact ⟨_, _, _, rfl, h, lookF_none en hm⟩
        | objF h hn en hs => exact ⟨_, _, _, rfl, h, lookF_none en hm⟩
      obtain ⟨a', dx, vfs, rfl, h3, h4⟩ := key
      refine ⟨a', dx, vfs, rfl, h3, h4, ?_⟩
      have V1 : VD (F ++ W) H1 := fun a ha => (List.mem_append.mp ha).elim (o1.tracked a) (V.mono s1 a)
      refine h2.run (F ++ W) env dr e2 σ H1 ((E.grow fun a ha => (List.mem_append.mp ha).elim (fun z => .inr (f1 a z)) .inl).mono s1) V1 _ fun vs H2 G s2 o2 n2 f2 => ?_
      refine k (.ref a' :: vs) H2 (F ++ G) (s1.trans s2) (.cons (o1.growS s2 fun a ha => ?_) (o2.weak fun a ha => ?_)) (fresh_join s1 n1 n2 o1.tracked f2) fun a ha => ?_
      · rcases List.mem_append.mp ha with ha | ha
        · rcases List.mem_append.mp ha with ha | ha
          · exact .inl (List.mem_append_left _ ha)
          · exact .inr (f2 a ha)
        · exact .inl (List.mem_append_right _ ha)
      · rcases List.mem_append.mp ha with ha | ha
        · rcases List.mem_append.mp ha with ha | ha
          · exact List.mem_append_right _ (List.mem_append_left _ ha)
          · exact List.mem_append_left _ ha
        · exact List.mem_append_right _ (List.mem_append_right _ ha)
      · rcases List.mem_append.mp ha with ha | ha
        · exact f1 a ha
        · exact Same.back s1 (f2 a ha)
    · cases e1
  · cases e1⟩
/-- o.m(..), nothing changed -/
theorem se_methP {k np cc : Nat} {m : Str} {sem : List D → Option (D × List D)} {dfl : List D} {apos : Pos} {pl : Sem Bool} {es : List Expr} {fs : EA} (C : CB X.prog X.w X.K X.mg X.base cl k (Meth X.K (cl cc) m) sem [] np dfl) (c : Cls X.K (cl cc)) (hr : Room k X.A) (ho : Se X cl a f) (h2 : Sa X cl (e :: es) fs)
    (hst : starEach (e :: es) X.env = (false, eval e X.env) :: starEach es X.env := by rfl) (hpl : (backTo pos (starEach es X.env)).any (·.1) = false := by rfl)
    (ht : eval (.Call (.Attribute a m apos) (e :: es) [] pos) X.env = (do
      let ov ← eval a X.env
      standAt apos.atName
      let (f, first) ← holding [ov] (getMethod ov m pl)
      callWith pos f first (backTo pos (starEach (e :: es) X.env)) (backToKw pos (keywordEach [] X.env))) := by rfl) : Se X cl (.Call (.Attribute a m apos) (e :: es) [] pos) (eCallP sem dfl (eCons (eObj cc m f) fs)) :=
  callA_run C (ar_meth ho h2) fun sp dvs h => by
    obtain ⟨f0, fd, ps, ds, F, hm, hb, hd⟩ := h
    exact pe_meth pe_w c hm F hr hb hd pass0 pa_w hst hpl ht
abbrev tMa0 (X : Cx) (C : Addr) (m : Str) (o : Expr) : St → Hp → (List V → Hp → Prop) → Prop := fun σ H Q => wE X o σ H fun x H1 => ∃ a dx fs, x = .ref a ∧ H1 a = some (.ins C dx fs) ∧ fs.lookup m = none ∧ Q [x] H1
theorem ar_meth0 {cc : Nat} {m : Str} (ho : Se X cl a f) : AR X cl (tMa0 X (cl cc) m a) (eCons (eObj cc m f) eNil) := ⟨fun W env ds q σ H E V Q k => by
  unfold eCons at q
  obtain ⟨d, e1, q1⟩ := bind1 q
  obtain ⟨dr, e2, q2⟩ := bind1 q1
  cases q2
  cases e2
  unfold eObj at e1
  obtain ⟨d0, e0, e1⟩ := bind1 e1
  split at e1
  · rename_i ob c' fds
    split at e1
    · rename_i hh
      obtain ⟨rfl, hm⟩ := hh
      cases e1
      refine ho.run W env _ e0 σ H E V _ fun v H1 F s1 o1 n1 f1 => ?_
      have key : ∃ a dx vfs, v = .ref a ∧ H1 a = some (.ins (cl cc) dx vfs) ∧ vfs.lookup m = none := by
        cases o1 with
        | objO h en hs => exact ⟨_, _, _, rfl, h, lookF_none en hm⟩
        | objF h hn en hs => exact ⟨_, _, _, rfl, h, lookF_none en hm⟩
      obtain ⟨a', dx, vfs, rfl, h3, h4⟩ := key
      refine ⟨a', dx, vfs, rfl, h3, h4, ?_⟩
      exact k [.ref a'] H1 (F ++ []) s1 (by rw [List.append_nil]; exact Owns.cons (G := []) o1 .nil |> fun z => by simpa using z) (by simpa using n1) fun a ha => f1 a (by simpa using ha)
    · cases e1
  · cases e1⟩
theorem se_methP0 {k np cc : Nat} {m : Str} {sem : List D → Option (D × List D)} {dfl : List D} {apos : Pos} {pl : Sem Bool} (C : CB X.prog X.w X.K X.mg X.base cl k (Meth X.K (cl cc) m) sem [] np dfl) (c : Cls X.K (cl cc)) (hr : Room k X.A) (ho : Se X cl a f)
    (ht : eval (.Call (.Attribute a m apos) [] [] pos) X.env = (do
      let ov ← eval a X.env
      standAt apos.atName
      let (f, first) ← holding [ov] (getMethod ov m pl)
      callWith pos f first (backTo pos (starEach [] X.env)) (backToKw pos (keywordEach [] X.env))) := by rfl) : Se X cl (.Call (.Attribute a m apos) [] [] pos) (eCallP sem dfl (eCons (eObj cc m f) eNil)) :=
  callA_run C (ar_meth0 ho) fun sp dvs h => by
    obtain ⟨f0, fd, ps, ds, F, hm, hb, hd⟩ := h
    exact pe_meth0 pe_w c hm F hr hb hd pass0 ht
end
/-! ### calls that change one argument -/
/-- the arguments, one of which is a path -/
structure AQ (X : Cx) (cl : Cl) (t : St → Hp → (List V → Hp → Prop) → Prop) (i : Nat) (p : EP1) (q : Nat) (cm : Option (Nat × Str)) (fs : EA) : Prop where
  run : ∀ (W1 : List Addr) (env1 : Env) (W2 : List Addr) (env2 : Env) (l : List St1) (ds : List D), p env1 = some l → fs env2 = some ds → ∀ (σ : St) (H : Hp), EV X.K cl W1 H σ env1 → VD W1 H → EV X.K cl W2 H σ env2 → VD W2 H →
    ∀ v u, σ[i]? = some (some v) → Nd X.K cl H v l u → (∀ c m, cm = some (c, m) → ∃ a dx vfs, u = .ref a ∧ H a = some (.ins (cl c) dx vfs) ∧ vfs.lookup m = none) → ∀ Q : List V → Hp → Prop,
    (∀ vs H' F, Same H H' → Owns X.K cl (F ++ W2) H' vs ds F → F.Nodup → (∀ a ∈ F, H a = none) → q ≤ vs.length → Q (vs.insertIdx q u) H') → t σ H Q
section
variable {X : Cx} {cl : Cl} {a b c e : Expr} {f g h : EE} {pos apos : Pos} {es : List Expr} {fs : EA} {i q : Nat} {p : EP1}
theorem aq_here (hp : Pt X cl a i p) (h2 : Sa X cl es fs) (hs : starEach (a :: es) X.env = (false, eval a X.env) :: starEach es X.env := by rfl) : AQ X cl (wA X (a :: es)) i p 0 none fs := ⟨fun W1 env1 W2 env2 l ds q1 q2 σ H E1 V1 E2 V2 v u hσ hn _ Q k => by
  refine wA.of (pa_cons pe_w pa_w hs) ?_
  refine hp.run W1 env1 l q1 σ H E1 V1 v u hσ hn _ fun H1 s1 => ?_
  refine h2.run W2 env2 ds q2 σ H1 (E2.mono s1) (V2.mono s1) _ fun vs H2 F s2 o2 n2 f2 => ?_
  exact k vs H2 F (s1.trans s2) o2 n2 (fun x hx => Same.back s1 (f2 x hx)) (Nat.zero_le _)⟩
theorem aq_next (h1 : Se X cl e f) (h2 : AQ X cl (wA X es) i p q none fs) (hs : starEach (e :: es) X.env = (false, eval e X.env) :: starEach es X.env := by rfl) : AQ X cl (wA X (e :: es)) i p (q + 1) none (eCons f fs) := ⟨fun W1 env1 W2 env2 l ds q1 q2 σ H E1 V1 E2 V2 v u hσ hn hcm Q k => by
  unfold eCons at q2
  obtain ⟨d, e1, q3⟩ := bind1 q2
  obtain ⟨dr, e2, q4⟩ := bind1 q3
  cases q4
  refine wA.of (pa_cons pe_w pa_w hs) ?_
  refine h1.run W2 env2 d e1 σ H E2 V2 _ fun v0 H1 F s1 o1 n1 f1 => ?_
  have V3 : VD (F ++ W2) H1 := fun a ha => (List.mem_append.mp ha).elim (o1.tracked a) (V2.mono s1 a)
  refine h2.run W1 env1 (F ++ W2) env2 l dr q1 e2 σ H1 (E1.mono s1) (V1.mono s1) ((E2.grow fun a ha => (List.mem_append.mp ha).elim (fun z => .inr (f1 a z)) .inl).mono s1) V3 v u hσ (hn.mono s1) (fun c m z => nomatch z) _ fun vs H2 G s2 o2 n2 f2 hq => ?_
  refine k (v0 :: vs) H2 (F ++ G) (s1.trans s2) (.cons (o1.growS s2 fun a ha => ?_) (o2.weak fun a ha => ?_)) (fresh_join s1 n1 n2 o1.tracked f2) (fun a ha => ?_) (Nat.succ_le_succ hq)
  · rcases List.mem_append.mp ha with ha | ha
    · rcases List.mem_append.mp ha with ha | ha
      · exact .inl (List.mem_append_left _ ha)
      · exact .inr (f2 a ha)
    · exact .inl (List.mem_append_right _ ha)
  · rcases List.mem_append.mp ha with ha | ha
    · rcases List.mem_append.mp ha with ha | ha
      · exact List.mem_append_right _ (List.mem_append_left _ ha)
      · exact List.mem_append_left _ ha
    · exact List.mem_append_right _ (List.mem_append_right _ ha)
  · rcases List.mem_append.mp ha with ha | ha
    · exact f1 a ha
    · exact Same.back s1 (f2 a ha)⟩
theorem aq_meth {cc : Nat} {m : Str} (hp : Pt X cl a i p) (h2 : Sa X cl es fs) : AQ X cl (tMa X (cl cc) m a es) i p 0 (some (cc, m)) fs := ⟨fun W1 env1 W2 env2 l ds q1 q2 σ H E1 V1 E2 V2 v u hσ hn hcm Q k => by
  obtain ⟨a', dx, vfs, rfl, h3, h4⟩ := hcm cc m rfl
  refine hp.run W1 env1 l q1 σ H E1 V1 v _ hσ hn _ fun H1 s1 => ⟨a', dx, vfs, rfl, s1 _ _ h3, h4, ?_⟩
  refine h2.run W2 env2 ds q2 σ H1 (E2.mono s1) (V2.mono s1) _ fun vs H2 F s2 o2 n2 f2 => ?_
  exact k vs H2 F (s1.trans s2) o2 n2 (fun x hx => Same.back s1 (f2 x hx)) (Nat.zero_le _)⟩
theorem aq_meth0 {cc : Nat} {m : Str} (hp : Pt X cl a i p) : AQ X cl (tMa0 X (cl cc) m a) i p 0 (some (cc, m)) eNil := ⟨fun W1 env1 W2 env2 l ds q1 q2 σ H E1 V1 E2 V2 v u hσ hn hcm Q k => by
  obtain ⟨a', dx, vfs, rfl, h3, h4⟩ := hcm cc m rfl
  refine hp.run W1 env1 l q1 σ H E1 V1 v _ hσ hn _ fun H1 s1 => ⟨a', dx, vfs, rfl, s1 _ _ h3, h4, ?_⟩
  cases q2
  exact k [] H1 [] s1 .nil List.nodup_nil (fun _ z => nomatch z) (Nat.zero_le _)⟩
end
def isObj (cm : Option (Nat × Str)) (n : D) : Bool := match cm with
  | none => true
  | some (c, m) => match n with
    | .obj _ c' fs => decide (c = c') && (lookF m fs).isNone
    | _ => false
def mIO (sem : List D → Option (D × List D)) (dfl : List D) (i : Nat) (p : EP1) (q : Nat) (cm : Option (Nat × Str)) (fs : EA) : EM := fun env => (p env).bind fun l => (getAt i l env).bind fun n =>
  if n.sh || !isObj cm n then none else match fs env with
    | some ds => (sem ((D.fzs ds).insertIdx q n ++ dfl)).bind fun r => match r.2 with
      | [n'] => some (r.1, setAt i l n' env)
      | _ => none
    | none => (fs ((frz env).set i .hole)).bind fun ds => (sem ((D.fzs ds).insertIdx q n ++ dfl)).bind fun r => match r.2 with
      | [n'] => if r.1.nf && n'.nf then some (r.1, setAt i l n' env) else none
      | _ => none
theorem Owns.ins {K : PySem.W.Frag} {cl : Cl} {W : List Addr} {H : Hp} {u : V} {n : D} {G : List Addr} (o : Own K cl W H u n G) : ∀ {q : Nat} {vs : List V} {ds : List D}, q ≤ vs.length → Owns K cl W H vs ds [] → Owns K cl W H (vs.insertIdx q u) (ds.insertIdx q n) G
  | 0, vs, ds, _, h => by
    have := Owns.cons o h
    rw [List.append_nil] at this
    exact this
  | q + 1, [], _, hq, _ => by simp at hq
  | q + 1, v :: vs, [], _, h => by
    have := h.length
    simp at this
  | q + 1, v :: vs, d :: ds, hq, h => by
    obtain ⟨v', r, e, h1, h2⟩ := owns_cons0 h
    cases e
    exact Owns.cons (F := []) h1 (Owns.ins o (by simpa using hq) h2)
section
variable {K : PySem.W.Frag} {cl : Cl} {R F : List Addr} {H : Hp} {σ : St} {env : Env}
theorem Sl.fzW {W W' : List Addr} (sl : Sl K cl W H σ env F) (t : TabsOk cl H) (h : ∀ a, H a ≠ none → a ∉ W → a ∉ W') (f : ∀ a ∈ F, a ∉ W') : EV K cl W' H σ (frz env) := ⟨by rw [sl.len]; unfold Tg.frz; rw [List.length_map], fun i d h1 h2 => by
  unfold Tg.frz at h1
  rw [List.getElem?_map] at h1
  cases hh : env[i]? with
  | none => rw [hh] at h1; cases h1
  | some d0 =>
    rw [hh] at h1
    cases h1
    obtain ⟨o, G, A, B, g1, g2, g3, _⟩ := sl.zoom hh
    rcases g3 with ⟨g3, _⟩ | ⟨v, rfl, g3⟩
    · exact absurd g3 (fz_hole h2)
    · exact ⟨v, [], g1, g3.fz W' h fun a ha => f a (by rw [g2]; simp [ha])⟩, t⟩
theorem frz_set (env : Env) (i : Nat) : frz (env.set i .hole) = (frz env).set i .hole := by unfold Tg.frz; rw [List.map_set]; rfl
/-- all but a slot lent, G what is changed -/
theorem ER.frzBut (E : ER K cl R F σ H env) {i : Nat} {d0 : D} (hd : env[i]? = some d0) {l : List St1} {n : D} (hg : getAt i l env = some n) (hs : n.sh = false) :
    ∃ v u G F1 F2, σ[i]? = some (some v) ∧ Nd K cl H v l u ∧ F = F1 ++ (G ++ F2) ∧ Own K cl (R ++ F) H u n G ∧ EV K cl (R ++ G) H σ ((frz env).set i .hole) ∧
      ∀ (W' : List Addr) (H' : Hp) (n' : D) (G' : List Addr), Keep (R ++ F) W' (F1 ++ F2) H H' → Own K cl W' H' u n' G' → Sl K cl W' H' σ (setAt i l n' env) (F1 ++ (G' ++ F2)) := by
  obtain ⟨o1, G0, A, B, h1, h2, h3, h4⟩ := E.sl.zoom hd
  have hg' := hg
  unfold getAt at hg'
  rw [hd] at hg'
  have hp : getP l d0 = some n := by cases d0 <;> first | exact hg' | cases hg'
  have hne : d0 ≠ .hole := fun z => by rw [z] at hg'; cases hg'
  rcases h3 with ⟨z, _⟩ | ⟨v, rfl, ov⟩
  · exact absurd z hne
  · obtain ⟨u, G, F1, F2, k1, k2, k3, k4⟩ := own_path l ov hp hs
    have nF := E.nd
    rw [h2] at nF
    have nA := List.nodup_append.mp nF
    have nG := List.nodup_append.mp nA.2.1
    have gsub : ∀ a ∈ G, a ∈ G0 := fun a ha => by rw [k2]; simp [ha]
    have hole := h4 (R ++ F) H (some v) .hole [] (Keep.re (K := K) fun a ha _ => ha) (.inl ⟨rfl, rfl⟩)
    rw [set_self h1] at hole
    have ev := hole.fzW (W' := R ++ G) E.tabs (fun a _ ha z => ha (by
        rcases List.mem_append.mp z with z | z
        · exact List.mem_append_left _ z
        · exact List.mem_append_right _ (by rw [h2]; simp [gsub a z]))) (fun a ha z => by
      have haF : a ∈ F := by rw [h2]; simp only [List.nil_append, List.mem_append] at ha ⊢; rcases ha with y | y <;> simp [y]
      rcases List.mem_append.mp z with z | z
      · exact E.ap a haF z
      · simp only [List.nil_append, List.mem_append] at ha
        rcases ha with y | y
        · exact nA.2.2 a y a (List.mem_append_left _ (gsub a z)) rfl
        · exact nG.2.2 a (gsub a z) a y rfl)
    rw [frz_set] at ev
    refine ⟨v, u, G, A ++ F1, F2 ++ B, h1, k1, by rw [h2, k2]; simp, k3, ev, fun W' H' n' G' kp o' => ?_⟩
    have q1 := k4 W' H' n' G' ⟨fun b hb => kp.own b (by simp only [List.mem_append] at hb ⊢; rcases hb with z | z <;> simp [z]), kp.out, kp.tup, kp.frz, kp.fr⟩ o'
    have q2 := h4 W' H' (some v) _ _ ⟨fun b hb => kp.own b (by simp only [List.mem_append] at hb ⊢; rcases hb with z | z <;> simp [z]), kp.out, kp.tup, kp.frz, kp.fr⟩ (.inr ⟨v, rfl, q1⟩)
    rw [set_self h1] at q2
    have e3 : A ++ ((F1 ++ (G' ++ F2)) ++ B) = A ++ F1 ++ (G' ++ (F2 ++ B)) := by simp
    rw [e3] at q2
    unfold setAt
    rw [hd]
    exact q2
end
theorem insertIdx_get {α : Type} (x : α) : ∀ {q : Nat} {xs : List α} (ys : List α), q ≤ xs.length → (xs.insertIdx q x ++ ys)[q]? = some x
  | 0, xs, ys, _ => by simp
  | q + 1, [], ys, h => by simp at h
  | q + 1, y :: xs, ys, h => by
    have := insertIdx_get x (q := q) (xs := xs) ys (by simpa using h)
    simpa using this
section
variable {X : Cx} {cl : Cl} {a b c e : Expr} {pos : Pos} {fs : EA} {i q : Nat} {p : EP1}
theorem io_run {k np : Nat} {at_ : Addr → Prop} {sem : List D → Option (D × List D)} {dfl : List D} {cm : Option (Nat × Str)} {t : St → Hp → (List V → Hp → Prop) → Prop} (C : CB X.prog X.w X.K X.mg X.base cl k at_ sem [q] np dfl) (ha : AQ X cl t i p q cm fs)
    (hp : ∀ sp dvs, (∃ f0 fd ps ds, FnOk X.prog X.w X.K X.mg X.base CX0 k f0 fd ps sp ∧ at_ f0 ∧ Binds X.K fd ps ds ∧ Vals dvs ds) → PE X e (fun σ H Q => t σ H fun vs H1 => sp (vs ++ dvs) H1 Q E0)) : Sv X cl e (mIO sem dfl i p q cm fs) := ⟨fun R F env env' d qq σ H E Q kq => by
  obtain ⟨f0, fd, ps, dvs, dsv, FF, hat, hb, hd, hdf⟩ := C.ex
  have hpe := hp _ dvs ⟨f0, fd, ps, dsv, FF, hat, hb, hd⟩
  refine wE.of hpe ?_
  unfold mIO at qq
  obtain ⟨l, e1, q1⟩ := bind1 qq
  obtain ⟨n, e2, q2⟩ := bind1 q1
  split at q2
  · cases q2
  rename_i hcond
  have hsh : n.sh = false ∧ isObj cm n = true := by
    cases h1 : n.sh <;> cases h2 : isObj cm n <;> simp [h1, h2] at hcond ⊢
  obtain ⟨d0, hd0, _, _⟩ := getAt_some e2
  obtain ⟨v, u, G, F1, F2, h1, h2, h3, h4, hev, h5⟩ := E.frzBut hd0 e2 hsh.1
  have hcm : ∀ c m, cm = some (c, m) → ∃ a dx vfs, u = .ref a ∧ H a = some (.ins (cl c) dx vfs) ∧ vfs.lookup m = none := fun c m ec => by
    have ho := hsh.2
    rw [ec] at ho
    unfold isObj at ho
    cases n with
    | obj ob c' nfs =>
      have ho' : (decide (c = c') && (lookF m nfs).isNone) = true := ho
      rw [Bool.and_eq_true, decide_eq_true_eq, Option.isNone_iff_eq_none] at ho'
      obtain ⟨rfl, hm⟩ := ho'
      cases h4 with
      | objO h en hs => exact ⟨_, _, _, rfl, h, lookF_none en hm⟩
      | objF h hn en hs => exact ⟨_, _, _, rfl, h, lookF_none en hm⟩
    | _ => cases ho
  have nF := E.nd
  rw [h3] at nF
  have nF1 := List.nodup_append.mp nF
  have nF2 := List.nodup_append.mp nF1.2.1
  have gF : ∀ b ∈ G, b ∈ F := fun b hb => by rw [h3]; simp [hb]
  have oF : ∀ b ∈ F1 ++ F2, b ∈ F := fun b hb => by rw [h3]; simp only [List.mem_append] at hb ⊢; rcases hb with z | z <;> simp [z]
  have oG : ∀ b ∈ F1 ++ F2, b ∉ G := fun b hb z => by
    rcases List.mem_append.mp hb with y | y
    · exact nF1.2.2 b y b (List.mem_append_left _ z) rfl
    · exact nF2.2.2 b z b y rfl
  -- behind the arguments
  have core : ∀ (R' : List Addr) (vs : List V) (ds : List D) (H1 : Hp) (r : D × List D) (n' : D), Same H H1 → (∀ b ∈ R', b ∈ R ++ (F1 ++ F2)) → (∀ b ∈ R, b ∈ R') → Owns X.K cl (R' ++ G) H1 vs ds [] → q ≤ vs.length → sem (ds.insertIdx q n ++ dfl) = some r → r.2 = [n'] → r.1 = d → setAt i l n' env = env' →
      ((∀ b ∈ F1 ++ F2, b ∈ R') ∨ (d.nf = true ∧ n'.nf = true)) → spF X.K cl np [q] sem (vs.insertIdx q u ++ dvs) H1 Q E0 := by
    intro R' vs ds H1 r n' s1 hR1 hR2 o1 hq e3 er ed ee hcase
    have og : Own X.K cl (R' ++ G) H1 u n G := (h4.mono s1).weak fun b hb => by
      rcases List.mem_append.mp hb with z | z
      · rcases List.mem_append.mp (hR1 b z) with y | y
        · exact List.mem_append_left _ y
        · exact List.mem_append_right _ (oF b y)
      · exact List.mem_append_right _ (gF b z)
    have o2 : Owns X.K cl (R' ++ G) H1 (vs.insertIdx q u ++ dvs) (ds.insertIdx q n ++ dfl) G := by
      have := Owns.append (Owns.ins og hq o1) (hdf (R' ++ G) H1)
      rwa [List.append_nil] at this
    have hRd : VD R' H1 := fun b hb z => by
      rcases List.mem_append.mp (hR1 b hb) with y | y
      · exact E.vd b y (Same.back s1 z)
      · exact E.sl.tracked b (oF b y) (Same.back s1 z)
    have gR : ∀ b ∈ G, b ∉ R' := fun b hb z => by
      rcases List.mem_append.mp (hR1 b z) with y | y
      · exact E.ap b (gF b hb) y
      · exact oG b y hb
    refine ⟨by rw [o2.length, C.len _ _ e3], R', G, _, r.1, r.2, o2, nF2.1, gR, hRd, E.tabs.mono s1, e3, fun w H2 F'' G'' ow fi nd ap fr => ?_⟩
    subst ed
    rw [er] at fi
    cases fi with
    | cons hi0 ofin rest =>
      rename_i u2 F0 G0
      have hG0 := fins0 rest
      subst hG0
      rw [insertIdx_get u dvs hq] at hi0
      cases hi0
      rw [List.append_nil] at ow ofin nd ap fr
      have nd' := List.nodup_append.mp nd
      have newd : ∀ b ∈ G'' ++ F0, b ∈ G ∨ H b = none := fun b hb => (fr.new b hb).elim .inl fun z => .inr (Same.back s1 z)
      have off : ∀ b, (b ∈ G ∨ H b = none) → b ∉ R ∧ b ∉ F1 ∧ b ∉ F2 := fun b hb => by
        rcases hb with z | z
        · exact ⟨E.ap b (gF b z), fun y => oG b (List.mem_append_left _ y) z, fun y => oG b (List.mem_append_right _ y) z⟩
        · exact ⟨fun y => E.vd b y z, fun y => E.sl.tracked b (oF b (List.mem_append_left _ y)) z, fun y => E.sl.tracked b (oF b (List.mem_append_right _ y)) z⟩
      have conv : ∀ (w : V) (dd : D) (Fx : List Addr), Own X.K cl (G'' ++ (R' ++ F0)) H2 w dd Fx → (dd = r.1 ∨ dd = n') → Own X.K cl (G'' ++ (R ++ (F1 ++ (F0 ++ F2)))) H2 w dd Fx := fun w dd Fx o hdd => by
        rcases hcase with hc | ⟨hc1, hc2⟩
        · refine o.weak fun b hb => ?_
          simp only [List.mem_append] at hb ⊢
          rcases hb with z | z | z | z | z
          · exact .inl z
          · exact .inr (.inl (hR2 b z))
          · exact .inr (.inl (hc b (List.mem_append_left _ z)))
          · exact .inr (.inr z)
          · exact .inr (.inl (hc b (List.mem_append_right _ z)))
        · rcases hdd with rfl | rfl
          · exact o.nf _ hc1
          · exact o.nf _ hc2
      have kp : Keep (R ++ F) (G'' ++ (R ++ (F1 ++ (F0 ++ F2)))) (F1 ++ F2) H H2 := by
        refine ⟨fun b hb o h => fr.keep b o (s1 _ _ h) (oG b hb), fun b o hb h => fr.keep b o (s1 _ _ h) fun z => hb (List.mem_append_right _ (gF b z)), fun b vs0 h => fr.tup b vs0 (s1 _ _ h), fun b o u0 h => fr.frz b o u0 (s1 _ _ h), fun b hb hn z => ?_⟩
        simp only [List.mem_append, not_or] at hb z
        rcases z with z | z | z | z | z
        · exact (newd b (List.mem_append_left _ z)).elim (fun y => hb.2 (gF b y)) hn
        · exact hb.1 z
        · exact hb.2 (oF b (List.mem_append_left _ z))
        · exact (newd b (List.mem_append_right _ z)).elim (fun y => hb.2 (gF b y)) hn
        · exact hb.2 (oF b (List.mem_append_right _ z))
      have sl := h5 _ H2 n' F0 kp (conv u n' F0 ofin (.inr rfl))
      rw [ee] at sl
      refine kq w H2 (F1 ++ (F0 ++ F2)) G'' ⟨sl, nodup_mid nF nd'.2.1 fun x hx => ?_, fun b hb => ?_, fun b hb z => ?_, nd'.1, fun b hb => ⟨(off b (newd b (List.mem_append_left _ hb))).1, fun z => ?_⟩, fun b hb => ow.tracked b hb, fun p hp => fr.tabs _ _ (s1.tabs _ _ (E.tabs p hp))⟩ (conv w r.1 G'' ow (.inl rfl)) ⟨fun b o h hb => fr.keep b o (s1 _ _ h) fun z => hb (gF b z), fun b vs0 h => fr.tup b vs0 (s1 _ _ h), fun b o u0 h => fr.frz b o u0 (s1 _ _ h), fun b h => Same.back s1 (fr.back b h), fun b hb => ?_, fun P n t => fr.tabs P n (s1.tabs P n t)⟩
      · rcases newd x (List.mem_append_right _ hx) with z | z
        · exact .inl z
        · exact .inr ⟨(off x (.inr z)).2.1, (off x (.inr z)).2.2⟩
      · simp only [List.mem_append] at hb
        rcases hb with z | z | z
        · exact E.ap b (oF b (List.mem_append_left _ z))
        · exact (off b (newd b (List.mem_append_right _ z))).1
        · exact E.ap b (oF b (List.mem_append_right _ z))
      · exact E.vd b hb (Same.back s1 (fr.back b z))
      · simp only [List.mem_append] at z
        rcases z with z | z | z
        · exact (off b (newd b (List.mem_append_left _ hb))).2.1 z
        · exact nd'.2.2 b hb b z rfl
        · exact (off b (newd b (List.mem_append_left _ hb))).2.2 z
      · simp only [List.mem_append] at hb
        rcases hb with z | z | z | z
        · exact (newd b (List.mem_append_left _ z)).elim (fun y => .inl (gF b y)) .inr
        · exact .inl (oF b (List.mem_append_left _ z))
        · exact (newd b (List.mem_append_right _ z)).elim (fun y => .inl (gF b y)) .inr
        · exact .inl (oF b (List.mem_append_right _ z))
  split at q2
  · rename_i ds e3
    obtain ⟨r, e4, q3⟩ := bind1 q2
    split at q3
    · rename_i n' er
      cases q3
      refine ha.run (R ++ F) env (R ++ F) env l ds e1 e3 σ H E.ev E.vd' E.ev E.vd' v u h1 h2 hcm _ fun vs H1 Fn s1 o1 n1 f1 hq => ?_
      refine core (R ++ (F1 ++ F2)) vs (D.fzs ds) H1 r n' s1 (fun b hb => hb) (fun b hb => List.mem_append_left _ hb) (Owns.fz _ o1 (fun b _ hb z => hb ?_) fun b hb z => ?_) hq e4 er rfl rfl (.inl fun b hb => List.mem_append_right _ hb)
      · rw [h3]
        simp only [List.mem_append] at z ⊢
        rcases z with (z | z | z) | z <;> simp [z]
      · simp only [List.mem_append] at z
        have hn := f1 b hb
        rcases z with (z | z | z) | z
        · exact E.vd b z hn
        · exact E.sl.tracked b (oF b (List.mem_append_left _ z)) hn
        · exact E.sl.tracked b (oF b (List.mem_append_right _ z)) hn
        · exact E.sl.tracked b (gF b z) hn
    · cases q3
  · obtain ⟨ds, e3, q3⟩ := bind1 q2
    obtain ⟨r, e4, q4⟩ := bind1 q3
    split at q4
    · rename_i n' er
      split at q4
      · rename_i hnf
        rw [Bool.and_eq_true] at hnf
        cases q4
        have VG : VD (R ++ G) H := fun b hb => (List.mem_append.mp hb).elim (E.vd b) fun z => E.sl.tracked b (gF b z)
        refine ha.run (R ++ F) env (R ++ G) _ l ds e1 e3 σ H E.ev E.vd' hev VG v u h1 h2 hcm _ fun vs H1 Fn s1 o1 n1 f1 hq => ?_
        refine core R vs (D.fzs ds) H1 r n' s1 (fun b hb => List.mem_append_left _ hb) (fun b hb => hb) (Owns.fz _ o1 (fun b _ hb z => hb (List.mem_append_right _ z)) fun b hb z => VG b z (f1 b hb)) hq e4 er rfl rfl (.inr hnf)
      · cases q4
    · cases q4⟩
end
end Tg

namespace Tg
open PySem PySem.Spec L2 RT RZ
section
variable {X : Cx} {cl : Cl} {a b c e : Expr} {f g h : EE} {pos : Pos}
/-! ### built-ins of two values -/
structure GF2 (X : Cx) (cl : Cl) (f : Value) (g : D → D → Option D) : Prop where
  run : ∀ dx dy d, g dx dy = some d → ∃ r : List L2.V → Hp → VK → Prop, CallR X f r ∧ ∀ W H x y Fx Fy, VD W H → Own X.K cl W H x dx Fx → Own X.K cl W H y dy Fy → ∀ Q : VK, Po X.K cl W H d Q → r [x, y] H Q
theorem se_fn2 {id : String} {x : Str} {p : Pos} {G : D → D → Option D} (o : GF2 X cl (.builtin id) G) (hg : Gl X x) (hm : X.mg x = none) (hv : bootBuiltins x = some (.builtin id)) (ha : Pk X cl a f) (hb : Pk X cl b g) (hn : x ≠ "__name__" := by decide) (hdb : (x == ("__debug__" : Str)) = false := by decide)
    (h1 : starEach [a, b] X.env = (false, eval a X.env) :: starEach [b] X.env := by rfl) (h2 : starEach [b] X.env = (false, eval b X.env) :: starEach [] X.env := by rfl) (hpl : (backTo pos (starEach [b] X.env)).any (·.1) = false := by rfl) :
    Se X cl (.Call (.Name x p) [a, b] [] pos) (eOp G f g) := ⟨fun W env d q σ H E V Q k => by
  obtain ⟨dx, dy, e1, e2, e3⟩ := bind2 q
  obtain ⟨r, hr, run⟩ := o.run dx dy d e3
  refine wE.of (pe_callB hr hg hm hv (pa_cons pe_w (pa_cons pe_w pa_nil h2) h1) hn hdb h1 hpl) ?_
  refine ha.run W env dx e1 σ H E V _ fun v H1 F s1 o1 => ?_
  refine hb.run W env dy e2 σ H1 (E.mono s1) (V.mono s1) _ fun v2 H2 F2 s2 o2 => ?_
  exact run W H2 v v2 F F2 (V.mono (s1.trans s2)) (o1.mono s2) o2 Q fun z H3 F3 s3 o3 n3 f3 => k z H3 F3 ((s1.trans s2).trans s3) o3 n3 fun y hy => Same.back (s1.trans s2) (f3 y hy)⟩
def gMin : D → D → Option D
  | .int i, .int j => some (.int (if j < i then j else i))
  | _, _ => none
def gMax : D → D → Option D
  | .int i, .int j => some (.int (if j > i then j else i))
  | _, _ => none
theorem gf_min (hc : X.calm = true) : GF2 X cl (.builtin "min") gMin := ⟨fun dx dy d q => by
  refine ⟨_, call_min2 hc, fun W H x y Fx Fy V o1 o2 Q k => ?_⟩
  unfold gMin at q
  split at q
  · cases q
    cases own_int o1
    cases own_int o2
    exact ⟨_, _, rfl, k.int⟩
  · cases q⟩
theorem gf_max (hc : X.calm = true) : GF2 X cl (.builtin "max") gMax := ⟨fun dx dy d q => by
  refine ⟨_, call_max2 hc, fun W H x y Fx Fy V o1 o2 Q k => ?_⟩
  unfold gMax at q
  split at q
  · cases q
    cases own_int o1
    cases own_int o2
    exact ⟨_, _, rfl, k.int⟩
  · cases q⟩
end
end Tg

namespace Tg
open PySem PySem.Spec L2 RT RZ
/-! ### lengths of written lists -/
def LenA (fs : EA) (n : Nat) : Prop := ∀ env ds, fs env = some ds → ds.length = n
theorem la_nil : LenA eNil 0 := fun env ds h => by cases h; rfl
theorem la_cons {f : EE} {fs : EA} {n : Nat} (h : LenA fs n) : LenA (eCons f fs) (n + 1) := fun env ds q => by
  unfold eCons at q
  obtain ⟨x, _, q⟩ := bind1 q
  obtain ⟨xs, e, q⟩ := bind1 q
  cases q
  rw [List.length_cons, h env xs e]
section
variable {X : Cx} {cl : Cl} {io : List Nat} {a b e : Expr} {f g : EE} {fs : EA} {es : List Expr} {pos : Pos} {x1 : Nat} {st : Stmt} {s : SS} {n : Nat}
theorem se_tupN (h : Sa X cl es fs) (hl : LenA fs n) (hn : n ≤ 1000 := by decide) : Se X cl (.Tuple es x1 pos) (eTup fs) := se_tup h fun env ds q => by rw [hl env ds q]; exact hn
theorem se_lstN (h : Sa X cl es fs) (hl : LenA fs n) (hn : n ≤ 1000 := by decide) : Se X cl (.List es pos) (eLst fs) := se_lst h fun env ds q => by rw [hl env ds q]; exact hn
/-! ### slots forgotten ahead of a statement -/
def sPre (is : List Nat) (s : SS) : SS := fun env => s (clrD is env)
theorem sm_pre {is : List Nat} (h1 : Sm X cl io st s) : Sm X cl io st (sPre is s) := ⟨fun R F env fl q σ H E D k => by
  obtain ⟨F', E', sub⟩ := E.forgets is
  exact h1.run R F' _ fl q σ H E' D (k.step (Fr.same (Same.refl H) fun a ha => .inl (sub a ha)) Pin.refl)⟩
end
/-! ### & of any two ints -/
def gAndI : D → D → Option D
  | .int i, .int j => some (.int (Builtin.bitAnd i j))
  | _, _ => none
theorem go_andI {X : Cx} {cl : Cl} : GO X cl (binaryOp .BitAnd) gAndI := go_I0 op_and (fun dx dy d q => by
  unfold gAndI at q
  split at q
  · cases q; exact ⟨_, _, rfl, rfl, rfl⟩
  · cases q) fun i j _ _ => .int _
/-! ### the defs by the head's facts -/
section
variable {P : Program} {w : World} {K : PySem.W.Frag} {h : Heap} {mg : Str → Option Value} {base : Heap} {cl : Cl} {fa : List He.Fa} {fn : List He.DefD}
/-- how the arguments come to the parameters -/
def BindsD (K : PySem.W.Frag) (cl : Cl) (fd : FuncData) (ps : List Str) (dfl : List D) : Prop := ∃ dvs ds, Binds K fd ps ds ∧ Vals dvs ds ∧ ∀ W H, Owns K cl W H dvs dfl []
theorem bN_ok {x qual : Str} {params : Arguments} {stmts : List Stmt} {scope : Scope} {kws : List (Str × V)} {f : Addr} {fd : FuncData} {ps : List Str} (F : FunD K x qual params stmts scope [] kws f fd)
    (h : ∀ (kV doc pm : Value) (an : Option Addr) (cdv ct : Value) (us : List Value), us.length = ps.length → bindArgs (PySem.W.fnOf x qual params stmts scope .none kV doc pm an cdv ct) ⟨us, []⟩ = pure (ps.zip us)) : BindsD K cl fd ps [] :=
  ⟨[], [], FunD.bindsN F h, .nil, fun _ _ => .nil⟩
theorem b1_ok {x qual : Str} {params : Arguments} {stmts : List Stmt} {scope : Scope} {dvs : List V} {kws : List (Str × V)} {f : Addr} {fd : FuncData} {ps : List Str} {dfl : List D} (F : FunD K x qual params stmts scope dvs kws f fd) (n j : Nat) (hd : dvs ≠ []) (hn : n + (dvs.length - j) = ps.length)
    (h : ∀ (T : Addr) (kV doc pm : Value) (an : Option Addr) (cdv ct : Value) (us its : List Value), us.length = n → its.length = dvs.length →
      ∃ k, bindArgs (PySem.W.fnOf x qual params stmts scope (.ref T) kV doc pm an cdv ct) ⟨us, []⟩ = seqItems? (.ref T) >>= k ∧ k (some its.toArray) = pure (ps.zip (us ++ its.drop j)))
    (ho : ∀ W H, Owns K cl W H (dvs.drop j) dfl []) : BindsD K cl fd ps dfl := by
  obtain ⟨ds, h1, h2⟩ := FunD.binds1 F n j hd hn h
  exact ⟨_, ds, h2, h1, ho⟩
theorem cf_mk {k np : Nat} {io : List Nat} {x : Str} {sem : List D → Option (D × List D)} {dfl : List D} {ps : List Str} (c : He.SaysD fa fn K) (j : Nat) (d : He.DefD) (hd : fn[j]? = some d) (hg : mg x = some (.ref (He.fAd K d.at_)))
    (ok : ∀ fd, FunD K d.name d.qual d.params d.body d.scope (d.dvs K) (d.kws K) (He.fAd K d.at_) fd → FnOk P w K mg base CX0 k (He.fAd K d.at_) fd ps (spF K cl np io sem))
    (bd : ∀ fd, FunD K d.name d.qual d.params d.body d.scope (d.dvs K) (d.kws K) (He.fAd K d.at_) fd → BindsD K cl fd ps dfl) (len : ∀ ds r, sem ds = some r → ds.length = np) : CF P w K mg base cl k x sem io np dfl := by
  obtain ⟨fd, F⟩ := c.def_ j hd
  obtain ⟨dvs, ds, h1, h2, h3⟩ := bd fd F
  exact ⟨⟨_, fd, ps, dvs, ds, ok fd F, hg, F.kp, h1, h2, h3⟩, len⟩
end
/-- the law's own start -/
theorem law_start {K : PySem.W.Frag} {cl : Cl} {sem : List D → Option (D × List D)} {H : Hp} {a : Addr} {ns : List Int} {E : XK} (h : sem [.scr ns] = some (.bl true, [])) (hS : SqL K H a (ns.map V.int)) (hT : TabsOk cl H) : spF K cl 1 [] sem [.ref a] H (fun v _ => v = .bl true) E := by
  have o : Own K cl ([] ++ []) H (.ref a) (.scr ns) [] := by
    rcases hS with hS | hS
    · exact .scr hS (fun z => nomatch z)
    · exact .scrK hS
  refine ⟨rfl, [], [], [.scr ns], .bl true, [], Owns.cons (F := []) (G := []) o .nil, List.nodup_nil, (fun _ z => nomatch z), (fun _ z => nomatch z), hT, h, fun v H' F' G ow _ _ _ _ => own_bl ow⟩
end Tg

namespace Tg
open PySem PySem.Spec L2 RT RZ
/-! ### written lists whose items move -/
abbrev EAM := Env → Option (List D × Env)
def amNil : EAM := fun env => some ([], env)
def amCons (m : EM) (ms : EAM) : EAM := fun env => (m env).bind fun x => (ms x.2).bind fun y => some (x.1 :: y.1, y.2)
def mTup (ms : EAM) : EM := fun env => (ms env).bind fun y => if y.1.length ≤ 1000 then some (.tup y.1, y.2) else none
def mLst (ms : EAM) : EM := fun env => (ms env).bind fun y => if y.1.length ≤ 1000 then some (.lst true y.1, y.2) else none
structure Sva (X : Cx) (cl : Cl) (es : List Expr) (fs : EAM) : Prop where
  run : ∀ (R F : List Addr) (env env' : Env) (ds : List D), fs env = some (ds, env') → ∀ (σ : St) (H : Hp), ER X.K cl R F σ H env → ∀ Q : List V → Hp → Prop,
    (∀ vs H' F' G, EP X.K cl R G F' σ H' env' → Owns X.K cl (G ++ (R ++ F')) H' vs ds G → Fr F H (G ++ F') H' → Q vs H') → wA X es σ H Q
section
variable {K : PySem.W.Frag} {cl : Cl} {R G F F' : List Addr} {H H' : Hp} {σ : St} {env : Env}
theorem EP.mono (e : EP K cl R G F σ H env) (s : Same H H') : EP K cl R G F σ H' env :=
  ⟨e.sl.keep (Keep.same s), e.nd, e.ap, e.vd.mono s, e.gn, e.gr, fun a ha z => e.gt a ha (Same.back s z), e.tabs.mono s⟩
/-- what waits is avoided like what others have -/
theorem EP.er2 (e : EP K cl R G F σ H env) : ER K cl (G ++ R) F σ H env := ⟨by rw [List.append_assoc]; exact e.sl, e.nd, fun a ha z => (List.mem_append.mp z).elim (fun z => (e.gr a z).2 ha) (e.ap a ha),
  fun a ha => (List.mem_append.mp ha).elim (e.gt a) (e.vd a), e.tabs⟩
theorem ER.moveOut {i : Nat} {l : List St1} {n : D} (E : ER K cl R F σ H env) (hg : getAt i l env = some n) (hs : n.sh = false) :
    ∃ v u G F', σ[i]? = some (some v) ∧ Nd K cl H v l u ∧ EP K cl R G F' σ H (setAt i l .hole env) ∧ Own K cl (G ++ (R ++ F')) H u n G ∧ ∀ a ∈ G ++ F', a ∈ F := by
  obtain ⟨v, u, G, F1, F2, h1, h2, h3, h4, h5⟩ := E.node hg hs
  have nF := E.nd
  rw [h3] at nF
  have nF2 := (List.nodup_append.mp nF).2.1
  have hsub : ∀ b, b ∈ F1 ++ F2 → b ∈ F := fun b hb => by rw [h3]; simp only [List.mem_append] at hb ⊢; rcases hb with z | z <;> simp [z]
  have gsub : ∀ b ∈ G, b ∈ F := fun b hb => by rw [h3]; simp [hb]
  have perm : ∀ b, b ∈ G ++ (R ++ (F1 ++ F2)) ↔ b ∈ R ++ F := fun b => by
    rw [h3]
    simp only [List.mem_append]
    constructor
    · rintro (z | z | z | z) <;> simp [z]
    · rintro (z | z | z | z) <;> simp [z]
  have kp : Keep (R ++ F) (G ++ (R ++ (F1 ++ F2))) (F1 ++ F2) H H := Keep.re (K := K) fun b hb _ z => hb ((perm b).mp z)
  have sl := h5 (G ++ (R ++ (F1 ++ F2))) H .hole [] kp (.hole u)
  refine ⟨v, u, G, F1 ++ F2, h1, h2, ⟨sl, ?_, fun b hb => E.ap b (hsub b hb), E.vd, (List.nodup_append.mp nF2).1, fun b hb => ⟨E.ap b (gsub b hb), fun z => ?_⟩, fun b hb => E.sl.tracked b (gsub b hb), E.tabs⟩,
    h4.keep (Keep.re (K := K) fun b hb _ z => hb ((perm b).mp z)), fun b hb => ?_⟩
  · exact List.nodup_append.mpr ⟨(List.nodup_append.mp nF).1, (List.nodup_append.mp nF2).2.1, fun x hx y hy => (List.nodup_append.mp nF).2.2 x hx y (List.mem_append_right _ hy)⟩
  · rcases List.mem_append.mp z with z | z
    · exact (List.nodup_append.mp nF).2.2 b z b (List.mem_append_left _ hb) rfl
    · exact (List.nodup_append.mp nF2).2.2 b hb b z rfl
  · rcases List.mem_append.mp hb with z | z
    · exact gsub b z
    · exact hsub b z
/-- what waits stays, while the frame's own things change -/
theorem Keep.wait {F1 F2 G1 G2 W' : List Addr} {H1 H2 : Hp} (gf : ∀ a ∈ G1, a ∉ F1) (fr : Fr F1 H1 (G2 ++ F2) H2) (hW : ∀ a ∈ W', a ∈ G1 ∨ a ∈ R ∨ a ∈ F1 ∨ a ∈ G2 ∨ a ∈ F2) : Keep (G1 ++ (R ++ F1)) W' G1 H1 H2 := by
  refine ⟨fun a ha o h => fr.keep a o h (gf a ha), fun a o ha h => fr.keep a o h fun z => ha (by simp [z]), fr.tup, fr.frz, fun a ha hn z => ?_⟩
  simp only [List.mem_append, not_or] at ha
  rcases hW a z with z | z | z | z | z
  · exact ha.1 z
  · exact ha.2.1 z
  · exact ha.2.2 z
  · exact (fr.new a (List.mem_append_left _ z)).elim ha.2.2 hn
  · exact (fr.new a (List.mem_append_right _ z)).elim ha.2.2 hn
end
section
variable {X : Cx} {cl : Cl} {io : List Nat} {a b c e : Expr} {f g h : EE} {pos apos : Pos} {i : Nat} {p : EP1} {m : EM} {ms : EAM} {es : List Expr}
theorem sva_nil : Sva X cl [] amNil := ⟨fun R F env env' ds q σ H E Q k => by
  cases q
  refine wA.of pa_nil ?_
  exact k [] H F [] (E.ep (Same.refl H) List.nodup_nil (fun _ z => nomatch z) (fun _ z => nomatch z)) .nil (Fr.same (Same.refl H) fun a ha => .inl (by simpa using ha))⟩
theorem sva_cons (h1 : Sv X cl e m) (h2 : Sva X cl es ms) (hs : starEach (e :: es) X.env = (false, eval e X.env) :: starEach es X.env := by rfl) : Sva X cl (e :: es) (amCons m ms) := ⟨fun R F env env' ds q σ H E Q k => by
  unfold amCons at q
  obtain ⟨⟨d, env1⟩, e1, q1⟩ := bind1 q
  obtain ⟨⟨ds2, env2⟩, e2, q2⟩ := bind1 q1
  cases q2
  refine wA.of (pa_cons pe_w pa_w hs) ?_
  refine h1.run R F env env1 d e1 σ H E _ fun v H1 F1 G1 ep1 o1 fr1 => ?_
  refine h2.run (G1 ++ R) F1 env1 env2 ds2 e2 σ H1 ep1.er2 _ fun vs H2 F2 G2 ep2 o2 fr2 => ?_
  have perm : ∀ x, x ∈ (G1 ++ G2) ++ (R ++ F2) ↔ x ∈ G2 ++ ((G1 ++ R) ++ F2) := fun x => by
    simp only [List.mem_append]
    constructor
    · rintro ((z | z) | z | z) <;> simp [z]
    · rintro (z | (z | z) | z) <;> simp [z]
  have f1 : ∀ x ∈ F1, x ∈ F ∨ H x = none := fun x hx => fr1.new x (List.mem_append_right _ hx)
  refine k (v :: vs) H2 F2 (G1 ++ G2) ⟨ep2.sl.keep (Keep.re (K := X.K) fun x hx _ z => hx ((perm x).mp z)), ep2.nd, fun x hx z => ep2.ap x hx (List.mem_append_right _ z), fun x hx => ep2.vd x (List.mem_append_right _ hx), ?_, fun x hx => ?_, fun x hx => ?_, ep2.tabs⟩
    (.cons (o1.keep (Keep.wait (fun x hx => (ep1.gr x hx).2) fr2 fun x hx => ?_)) (o2.weak fun x hx => (perm x).mp hx))
    ⟨fun x o hx hn => fr2.keep x o (fr1.keep x o hx hn) fun z => (f1 x z).elim hn (fun y => by rw [hx] at y; cases y), fun x vs hx => fr2.tup x vs (fr1.tup x vs hx), fun x o u hx => fr2.frz x o u (fr1.frz x o u hx), fun x hx => fr1.back x (fr2.back x hx), fun x hx => ?_, fun P n t => fr2.tabs P n (fr1.tabs P n t)⟩
  · exact List.nodup_append.mpr ⟨ep1.gn, ep2.gn, fun x hx y hy z => (ep2.gr y hy).1 (List.mem_append_left _ (by rw [← z]; exact hx))⟩
  · rcases List.mem_append.mp hx with z | z
    · exact ⟨(ep1.gr x z).1, fun y => ep2.ap x y (List.mem_append_left _ z)⟩
    · exact ⟨fun y => (ep2.gr x z).1 (List.mem_append_right _ y), (ep2.gr x z).2⟩
  · rcases List.mem_append.mp hx with z | z
    · exact ep2.vd x (List.mem_append_left _ z)
    · exact ep2.gt x z
  · simp only [List.mem_append] at hx
    rcases hx with (z | z) | z | z <;> simp [z]
  · have two : x ∈ G2 ++ F2 → x ∈ F ∨ H x = none := fun y => (fr2.new x y).elim (f1 x) fun z => .inr (fr1.back x z)
    simp only [List.mem_append] at hx
    rcases hx with (z | z) | z
    · exact fr1.new x (List.mem_append_left _ z)
    · exact two (List.mem_append_left _ z)
    · exact two (List.mem_append_right _ z)⟩
theorem sv_tup {x1} (h : Sva X cl es ms) : Sv X cl (.Tuple es x1 pos) (mTup ms) := ⟨fun R F env env' d q σ H E Q k => by
  unfold mTup at q
  obtain ⟨⟨ds, env1⟩, e1, q1⟩ := bind1 q
  split at q1
  rotate_left
  · cases q1
  rename_i hl
  cases q1
  refine wE.of (pe_tup pa_w) ?_
  refine h.run R F env env1 ds e1 σ H E _ fun vs H1 F1 G ep o fr => ?_
  refine ⟨by rw [o.length]; exact Nat.le_trans hl (by rw [sizeLine_eq]; decide), fun p hp => ?_⟩
  exact k _ _ F1 G (ep.mono (same_new hp)) (.tup upd_same (o.mono (same_new hp))) (fr.trans (Fr.same (same_new hp) fun a ha => .inl ha))⟩
theorem sv_lst (h : Sva X cl es ms) : Sv X cl (.List es pos) (mLst ms) := ⟨fun R F env env' d q σ H E Q k => by
  unfold mLst at q
  obtain ⟨⟨ds, env1⟩, e1, q1⟩ := bind1 q
  split at q1
  rotate_left
  · cases q1
  rename_i hl
  cases q1
  refine wE.of (pe_lst pa_w) ?_
  refine h.run R F env env1 ds e1 σ H E _ fun vs H1 F1 G ep o fr => ?_
  refine ⟨by rw [o.length]; exact Nat.le_trans hl (by rw [sizeLine_eq]; decide), fun p hp => ?_⟩
  have s := same_new (o := .lst vs) hp
  have pG : p ∉ G := fun z => ep.gt p z hp
  have grow : ∀ x, x ∉ G ++ (R ++ F1) → H1 x ≠ none → x ∉ (p :: G) ++ (R ++ F1) := fun x hx hn z => by
    rw [List.cons_append] at z
    rcases List.mem_cons.mp z with z | z
    · exact hn (by rw [z]; exact hp)
    · exact hx z
  refine k _ _ F1 (p :: G) ⟨(ep.sl.keep (Keep.re (K := X.K) grow)).keep (Keep.same s), ep.nd, ep.ap, ep.vd.mono s, List.nodup_cons.mpr ⟨pG, ep.gn⟩, fun x hx => ?_, fun x hx => ?_, ep.tabs.mono s⟩ (.lstO upd_same ((o.keep (Keep.re (K := X.K) grow)).mono s)) ⟨fun x o hx hn => s x o (fr.keep x o hx hn), fun x vs hx => s _ _ (fr.tup x vs hx), fun x o u hx => s _ _ (fr.frz x o u hx), fun x hx => fr.back x (Same.back s hx), fun x hx => ?_, fun P n t => s.tabs P n (fr.tabs P n t)⟩
  · rcases List.mem_cons.mp hx with z | z
    · rw [z]; exact ⟨fun y => ep.vd p y hp, fun y => ep.sl.tracked p y hp⟩
    · exact ep.gr x z
  · rcases List.mem_cons.mp hx with z | z
    · rw [z, upd_same]; simp
    · exact fun y => ep.gt x z (Same.back s y)
  · rw [List.cons_append] at hx
    rcases List.mem_cons.mp hx with z | z
    · rw [z]; exact .inr (fr.back p hp)
    · exact fr.new x z⟩
/-! ### an item of a tuple that moved -/
def mIx (m : EM) (g : EE) : EM := fun env => (m env).bind fun x => match x.1 with
  | .tup xs => if D.shs xs then (g x.2).bind fun y => match y with
    | .int z => (atD xs z).map fun w => (w, x.2)
    | _ => none
    else none
  | _ => none
theorem sh_at : ∀ {xs : List D} {i : Nat} {d : D}, D.shs xs = true → xs[i]? = some d → d.sh = true
  | [], _, _, _, h => by simp at h
  | x :: xs, 0, d, h, e => by
    have h' : (x.sh && D.shs xs) = true := h
    rw [Bool.and_eq_true] at h'
    simp at e
    rw [← e]; exact h'.1
  | x :: xs, i + 1, d, h, e => by
    have h' : (x.sh && D.shs xs) = true := h
    rw [Bool.and_eq_true] at h'
    exact sh_at h'.2 (by simpa using e)
theorem sv_ix (ha : Sv X cl a m) (hb : Pk X cl b g) (hs : PlainIx b) : Sv X cl (.Subscript a b pos) (mIx m g) := ⟨fun R F env env' d q σ H E Q k => by
  unfold mIx at q
  obtain ⟨⟨dx, env1⟩, e1, q1⟩ := bind1 q
  refine wE.of (pe_ix ix_seq pe_w pe_w hs) ?_
  refine ha.run R F env env1 dx e1 σ H E _ fun v H1 F1 G ep o fr => ?_
  cases dx with
  | tup xs =>
    have q1' : (if D.shs xs then (g env1).bind fun y => match y with
      | .int z => (atD xs z).map fun w => (w, env1)
      | _ => none
      else none) = some (d, env') := q1
    split at q1'
    rotate_left
    · cases q1'
    rename_i hsh
    obtain ⟨y, e2, q2⟩ := bind1 q1'
    split at q2
    rotate_left
    · cases q2
    rename_i z
    cases e3 : atD xs z with
    | none => rw [e3] at q2; cases q2
    | some w =>
      rw [e3] at q2
      cases q2
      refine hb.run _ env' _ e2 σ H1 ep.er.ev ep.er.vd' _ fun u H2 G' s2 o2 => ?_
      cases own_int o2
      obtain ⟨p, vs, rfl, hp, hv⟩ := own_tup (o.mono s2)
      obtain ⟨w', G1, h1, h2, h3⟩ := owns_at hv e3
      obtain ⟨j, _, h4⟩ := atD_mem e3
      have := h2.sh (sh_at hsh h4)
      subst this
      have hG : G = [] := hv.sh hsh
      subst hG
      refine .inr (.inl ⟨p, vs, _, w', rfl, rfl, hp, h1, k w' H2 F1 [] (ep.mono s2) h2 (fr.trans (Fr.same s2 fun a ha => .inl ha))⟩)
  | _ => cases q1⟩
/-! ### calls by name, methods, that change one argument -/
theorem sv_callIO {k np q : Nat} {x : Str} {sem : List D → Option (D × List D)} {dfl : List D} {pn : Pos} {fs : EA} (C : CF X.prog X.w X.K X.mg X.base cl k x sem [q] np dfl) (hr : Room k X.A) (hg : Gl X x) (ha : AQ X cl (wA X (e :: es)) i p q none fs)
    (hdb : (x == ("__debug__" : Str)) = false := by decide) (he : starEach (e :: es) X.env = (false, eval e X.env) :: starEach es X.env := by rfl) (hpl : (backTo pos (starEach es X.env)).any (·.1) = false := by rfl) :
    Sv X cl (.Call (.Name x pn) (e :: es) [] pos) (mIO sem dfl i p q none fs) :=
  io_run C.cb ha fun sp dvs h => by
    obtain ⟨f0, fd, ps, ds, F, ⟨hm, hk⟩, hb, hd⟩ := h
    exact pe_call F hr hg hm hk hb hd pass0 pa_w hdb he hpl
theorem sv_meth {k np cc : Nat} {m : Str} {sem : List D → Option (D × List D)} {dfl : List D} {pl : Sem Bool} {fs : EA} (C : CB X.prog X.w X.K X.mg X.base cl k (Meth X.K (cl cc) m) sem [0] np dfl) (c : Cls X.K (cl cc)) (hr : Room k X.A) (hp : Pt X cl a i p) (h2 : Sa X cl (e :: es) fs)
    (hst : starEach (e :: es) X.env = (false, eval e X.env) :: starEach es X.env := by rfl) (hpl : (backTo pos (starEach es X.env)).any (·.1) = false := by rfl)
    (ht : eval (.Call (.Attribute a m apos) (e :: es) [] pos) X.env = (do
      let ov ← eval a X.env
      standAt apos.atName
      let (f, first) ← holding [ov] (getMethod ov m pl)
      callWith pos f first (backTo pos (starEach (e :: es) X.env)) (backToKw pos (keywordEach [] X.env))) := by rfl) : Sv X cl (.Call (.Attribute a m apos) (e :: es) [] pos) (mIO sem dfl i p 0 (some (cc, m)) fs) :=
  io_run C (aq_meth hp h2) fun sp dvs h => by
    obtain ⟨f0, fd, ps, ds, F, hm, hb, hd⟩ := h
    exact pe_meth pe_w c hm F hr hb hd pass0 pa_w hst hpl ht
theorem sv_meth0 {k np cc : Nat} {m : Str} {sem : List D → Option (D × List D)} {dfl : List D} {pl : Sem Bool} (C : CB X.prog X.w X.K X.mg X.base cl k (Meth X.K (cl cc) m) sem [0] np dfl) (c : Cls X.K (cl cc)) (hr : Room k X.A) (hp : Pt X cl a i p)
    (ht : eval (.Call (.Attribute a m apos) [] [] pos) X.env = (do
      let ov ← eval a X.env
      standAt apos.atName
      let (f, first) ← holding [ov] (getMethod ov m pl)
      callWith pos f first (backTo pos (starEach [] X.env)) (backToKw pos (keywordEach [] X.env))) := by rfl) : Sv X cl (.Call (.Attribute a m apos) [] [] pos) (mIO sem dfl i p 0 (some (cc, m)) eNil) :=
  io_run C (aq_meth0 hp) fun sp dvs h => by
    obtain ⟨f0, fd, ps, ds, F, hm, hb, hd⟩ := h
    exact pe_meth0 pe_w c hm F hr hb hd pass0 ht
end
end Tg

namespace Tg
open PySem PySem.Spec L2 RT RZ
/-! ### a class called: a new object -/
/-- how a class makes one: __init__ a level below -/
structure MF (P : Program) (w : World) (K : PySem.W.Frag) (mg : Str → Option Value) (base : Heap) (cl : Cl) (k : Nat) (x : Str) (c : Nat) (sem : List D → Option (D × List D)) (np : Nat) (dfl : List D) : Prop where
  ex : (∀ ds, sem ds = none) ∨ ∃ k', k = k' + 1 ∧ CB P w K mg base cl k' (Mk K (cl c)) sem [0] np dfl ∧ mg x = some (.ref (cl c))
def mkR (c : Nat) : D × List D → Option D
  | (.non, [.obj true c' fs]) => if c = c' then some (.obj true c fs) else none
  | _ => none
theorem mkR_some {c : Nat} {r : D × List D} {d : D} (h : mkR c r = some d) : ∃ fs, r = (.non, [.obj true c fs]) ∧ d = .obj true c fs := by
  unfold mkR at h
  split at h
  · split at h
    · rename_i e
      subst e
      cases h
      exact ⟨_, rfl, rfl⟩
    · cases h
  · cases h
def eMake (c : Nat) (sem : List D → Option (D × List D)) (dfl : List D) (fs : EA) : EE := fun env => match fs env with
  | some ds => (sem (.obj true c [] :: (D.fzs ds ++ dfl))).bind (mkR c)
  | none => (fs (frz env)).bind fun ds => (sem (.obj true c [] :: (D.fzs ds ++ dfl))).bind fun r => (mkR c r).bind fun d => if d.nf then some d else none
section
variable {X : Cx} {cl : Cl} {a b e : Expr} {f g h : EE} {pos apos : Pos} {es : List Expr} {fs : EA} {ms : EAM} {i : Nat}
theorem se_make {k np c : Nat} {x : Str} {sem : List D → Option (D × List D)} {dfl : List D} {pn : Pos} (C : MF X.prog X.w X.K X.mg X.base cl k x c sem np dfl) (hr : Room k X.A) (hg : Gl X x) (h2 : Sa X cl (e :: es) fs)
    (hdb : (x == ("__debug__" : Str)) = false := by decide) (he : starEach (e :: es) X.env = (false, eval e X.env) :: starEach es X.env := by rfl) (hpl : (backTo pos (starEach es X.env)).any (·.1) = false := by rfl) :
    Se X cl (.Call (.Name x pn) (e :: es) [] pos) (eMake c sem dfl fs) := ⟨fun W env d q σ H E V Q kq => by
  have hno : ∃ ds r, sem ds = some r := by
    unfold eMake at q
    split at q
    · obtain ⟨r, e1, _⟩ := bind1 q
      exact ⟨_, r, e1⟩
    · obtain ⟨ds, _, q1⟩ := bind1 q
      obtain ⟨r, e1, _⟩ := bind1 q1
      exact ⟨_, r, e1⟩
  rcases C.ex with hn | ⟨k', rfl, CC, hm⟩
  · obtain ⟨ds, r, e1⟩ := hno
    rw [hn] at e1
    cases e1
  obtain ⟨f0, fd, ps, dvs, dsv, FF, hM, hb, hd, hdf⟩ := CC.ex
  refine wE.of (pe_make hM FF hr hg hm hb hd pass0 pa_w hdb he hpl) ?_
  have core : ∀ (W : List Addr) (vs : List L2.V) (ds : List D) (H1 : Hp) (fs' : List (Str × D)), VD W H1 → TabsOk cl H1 → Owns X.K cl W H1 vs ds [] → sem (.obj true c [] :: (ds ++ dfl)) = some (.non, [.obj true c fs']) →
      (∀ v H2 G, Same H1 H2 → Own X.K cl (G ++ W) H2 v (.obj true c fs') G → G.Nodup → (∀ b ∈ G, H1 b = none) → Q v H2) →
      ∀ x dx, H1 x = none → H1 dx = none → dx ≠ x → spF X.K cl np [0] sem (.ref x :: (vs ++ dvs)) (upd (upd H1 dx (.own x)) x (.ins (cl c) dx [])) (fun v H2 => v = .non ∧ Q (.ref x) H2) E0 := by
    intro W vs ds H1 fs' V1 tb o1 e2 kk x dx hx hdx hne
    have s0 : Same H1 (upd (upd H1 dx (.own x)) x (.ins (cl c) dx [])) := Same.of fun b o hb => by
      rw [upd_ne (fun z => by rw [z, hx] at hb; cases hb), upd_ne (fun z => by rw [z, hdx] at hb; cases hb)]
      exact hb
    have o2 : Owns X.K cl (W ++ [x]) (upd (upd H1 dx (.own x)) x (.ins (cl c) dx [])) (.ref x :: (vs ++ dvs)) (.obj true c [] :: (ds ++ dfl)) [x] := by
      have oa : Owns X.K cl W H1 (vs ++ dvs) (ds ++ dfl) [] := Owns.append (F := []) (G := []) o1 (hdf W H1)
      have ob := oa.growS s0 (W' := W ++ [x]) fun b hb => (List.mem_append.mp hb).elim .inl fun z => .inr (by rw [List.mem_singleton.mp z]; exact hx)
      have oc : Own X.K cl (W ++ [x]) (upd (upd H1 dx (.own x)) x (.ins (cl c) dx [])) (.ref x) (.obj true c []) [x] := .objO (F := []) upd_same rfl .nil
      exact Owns.cons (F := [x]) (G := []) oc ob
    refine ⟨by rw [o2.length, CC.len _ _ e2], W, [x], _, _, _, o2, by simp, (fun b hb z => V1 b z (by rw [List.mem_singleton.mp hb]; exact hx)), V1.mono s0, tb.mono s0, e2, fun v H2 F' G' ow fi nd ap fr => ?_⟩
    have hv := own_non ow
    subst hv
    have hG' : G' = [] := by cases ow; rfl
    subst hG'
    refine ⟨rfl, ?_⟩
    cases fi with
    | cons hi0 ofin rest =>
      rename_i u2 F0 G0
      have hG0 := fins0 rest
      subst hG0
      cases hi0
      rw [List.append_nil] at ofin nd ap fr
      have newd : ∀ b ∈ F0, H1 b = none := fun b hb => (fr.new b (by simpa using hb)).elim (fun z => by rw [List.mem_singleton.mp z]; exact hx) fun z => Same.back s0 z
      refine kk _ H2 F0 ⟨fun b o hb => ?_, fun {b} h => s0.back (fr.back b h), fun P n t => fr.tabs P n (s0.tabs P n t)⟩ (ofin.weak fun b hb => ?_) (by simpa using nd) newd
      · refine fr.keep b o (s0 b o hb) fun z => ?_
        rw [List.mem_singleton.mp z, hx] at hb
        cases hb
      · simp only [List.nil_append, List.mem_append] at hb ⊢
        rcases hb with z | z <;> simp [z]
  unfold eMake at q
  split at q
  · rename_i ds e1
    obtain ⟨r, e2, q1⟩ := bind1 q
    obtain ⟨fs', rfl, rfl⟩ := mkR_some q1
    refine h2.run W env ds e1 σ H E V _ fun vs H1 G s1 o1 n1 f1 => ?_
    refine core W vs (D.fzs ds) H1 fs' (V.mono s1) (E.tabs.mono s1) (Owns.fz W o1 (fun b _ hb z => hb (List.mem_append_right _ z)) fun b hb z => V b z (f1 b hb)) e2 fun v H2 G2 s2 o2 n2 f2 => ?_
    exact kq v H2 G2 (s1.trans s2) o2 n2 fun b hb => Same.back s1 (f2 b hb)
  · obtain ⟨ds, e1, q0⟩ := bind1 q
    obtain ⟨r, e2, q1⟩ := bind1 q0
    obtain ⟨d', e3, q2⟩ := bind1 q1
    obtain ⟨fs', rfl, rfl⟩ := mkR_some e3
    split at q2
    · rename_i hnf
      cases q2
      refine h2.run [] (frz env) ds e1 σ H E.frz (fun _ z => nomatch z) _ fun vs H1 G s1 o1 n1 f1 => ?_
      refine core [] vs (D.fzs ds) H1 fs' (fun _ z => nomatch z) (E.tabs.mono s1) (Owns.fz [] o1 (fun b _ hb z => nomatch z) fun b hb z => nomatch z) e2 fun v H2 G2 s2 o2 n2 f2 => ?_
      exact kq v H2 G2 (s1.trans s2) (o2.nf _ hnf) n2 fun b hb => Same.back s1 (f2 b hb)
    · cases q2⟩
/-! ### o.m(..) that changes the object of a name; what is handed in may move -/
def mIOV (sem : List D → Option (D × List D)) (dfl : List D) (i c : Nat) (m : Str) (ms : EAM) : EM := fun env => match env[i]? with
  | some n => if n.sh || !isObj (some (c, m)) n then none else (ms (env.set i .hole)).bind fun x => if i < x.2.length then (sem (n :: (D.fzs x.1 ++ dfl))).bind fun r => match r.2 with
    | [n'] => some (r.1, x.2.set i n')
    | _ => none
    else none
  | none => none
theorem sv_methV {k np cc : Nat} {m : Str} {sem : List D → Option (D × List D)} {dfl : List D} {pl : Sem Bool} (C : CB X.prog X.w X.K X.mg X.base cl k (Meth X.K (cl cc) m) sem [0] np dfl) (c : Cls X.K (cl cc)) (hr : Room k X.A) (hp : Pt X cl a i qNil) (h2 : Sva X cl (e :: es) ms)
    (hst : starEach (e :: es) X.env = (false, eval e X.env) :: starEach es X.env := by rfl) (hpl : (backTo pos (starEach es X.env)).any (·.1) = false := by rfl)
    (ht : eval (.Call (.Attribute a m apos) (e :: es) [] pos) X.env = (do
      let ov ← eval a X.env
      standAt apos.atName
      let (f, first) ← holding [ov] (getMethod ov m pl)
      callWith pos f first (backTo pos (starEach (e :: es) X.env)) (backToKw pos (keywordEach [] X.env))) := by rfl) : Sv X cl (.Call (.Attribute a m apos) (e :: es) [] pos) (mIOV sem dfl i cc m ms) := ⟨fun R F env env' d q σ H E Q kq => by
  obtain ⟨f0, fd, ps, dvs, dsv, FF, hm, hb, hd, hdf⟩ := C.ex
  refine wE.of (pe_meth pe_w c hm FF hr hb hd pass0 pa_w hst hpl ht) ?_
  unfold mIOV at q
  split at q
  rotate_left
  · cases q
  rename_i n hn
  split at q
  · cases q
  rename_i hcond
  have hsh : n.sh = false ∧ isObj (some (cc, m)) n = true := by
    cases h1 : n.sh <;> cases h2 : isObj (some (cc, m)) n <;> simp [h1, h2] at hcond ⊢
  obtain ⟨⟨ds, env1⟩, e1, q1⟩ := bind1 q
  split at q1
  rotate_left
  · cases q1
  rename_i hi
  obtain ⟨r, e2, q2⟩ := bind1 q1
  split at q2
  rotate_left
  · cases q2
  rename_i n' er
  cases q2
  have hne : n ≠ .hole := fun z => by rw [z] at hsh; cases hsh.1
  have hg : getAt i [] env = some n := by
    unfold getAt
    rw [hn]
    cases n <;> first | rfl | exact absurd rfl hne
  obtain ⟨v, u, G, F1, h1, h3, ep, ou, sub⟩ := E.moveOut hg hsh.1
  have hset : setAt i [] .hole env = env.set i .hole := by
    unfold setAt
    rw [hn]
    rfl
  rw [hset] at ep
  have huv : v = u := Eq.symm h3
  subst huv
  have key : ∃ a dx vfs, v = .ref a ∧ H a = some (.ins (cl cc) dx vfs) ∧ vfs.lookup m = none := by
    have ho := hsh.2
    unfold isObj at ho
    cases n with
    | obj ob c' nfs =>
      have ho' : (decide (cc = c') && (lookF m nfs).isNone) = true := ho
      rw [Bool.and_eq_true, decide_eq_true_eq, Option.isNone_iff_eq_none] at ho'
      obtain ⟨rfl, hm⟩ := ho'
      cases ou with
      | objO h en hs => exact ⟨_, _, _, rfl, h, lookF_none en hm⟩
      | objF h hn en hs => exact ⟨_, _, _, rfl, h, lookF_none en hm⟩
    | _ => cases ho
  obtain ⟨a', dx, vfs, rfl, hins, hlk⟩ := key
  refine hp.run _ env [] rfl σ H E.ev E.vd' _ _ h1 h3 _ fun H1 s1 => ⟨a', dx, vfs, rfl, s1 _ _ hins, hlk, ?_⟩
  have ep1 := ep.mono s1
  refine h2.run (G ++ R) F1 (env.set i .hole) env1 ds e1 σ H1 ep1.er2 _ fun vs H2 F2 G2 ep2 o2 fr2 => ?_
  have o3 : Owns X.K cl ((R ++ F2) ++ G) H2 (.ref a' :: (vs ++ dvs)) (n :: (D.fzs ds ++ dfl)) G := by
    have on : Own X.K cl ((R ++ F2) ++ G) H2 (.ref a') n G := (ou.mono s1).keep (Keep.wait (fun b hb => (ep1.gr b hb).2) fr2 fun b hb => by
      simp only [List.mem_append] at hb
      rcases hb with (z | z) | z <;> simp [z])
    have oa : Owns X.K cl ((R ++ F2) ++ G) H2 vs (D.fzs ds) [] := Owns.fz _ o2 (fun b _ hb z => hb (by
        simp only [List.mem_append] at z ⊢
        rcases z with (z | z) | z <;> simp [z])) fun b hb z => by
      have g := ep2.gr b hb
      simp only [List.mem_append, not_or] at g z
      rcases z with (z | z) | z
      · exact g.1.2 z
      · exact g.2 z
      · exact g.1.1 z
    have ob : Owns X.K cl ((R ++ F2) ++ G) H2 (vs ++ dvs) (D.fzs ds ++ dfl) [] := Owns.append (F := []) (G := []) oa (hdf _ H2)
    have := Owns.cons on ob
    rwa [List.append_nil] at this
  refine ⟨by rw [o3.length, C.len _ _ e2], R ++ F2, G, _, r.1, r.2, o3, ep1.gn, fun b hb z => ?_, fun b hb => ?_, ep2.tabs, e2, fun w H3 F3 G3 ow fi nd ap fr3 => ?_⟩
  · rcases List.mem_append.mp z with z | z
    · exact (ep1.gr b hb).1 z
    · exact ep2.ap b z (List.mem_append_left _ hb)
  · rcases List.mem_append.mp hb with z | z
    · exact ep2.vd b (List.mem_append_right _ z)
    · exact ep2.sl.tracked b z
  rw [er] at fi
  cases fi with
  | cons hi0 ofin rest =>
    rename_i u2 F0 G0
    have hG0 := fins0 rest
    subst hG0
    cases hi0
    rw [List.append_nil] at ow ofin nd ap fr3
    have nd' := List.nodup_append.mp nd
    have newd : ∀ b ∈ G3 ++ F0, b ∈ G ∨ H2 b = none := fr3.new
    have off : ∀ b ∈ G3 ++ F0, b ∉ R ∧ b ∉ F2 := fun b hb => ⟨fun z => ap b hb (List.mem_append_left _ z), fun z => ap b hb (List.mem_append_right _ z)⟩
    have f2g : ∀ b ∈ F2, b ∉ G := fun b hb z => ep2.ap b hb (List.mem_append_left _ z)
    have kp : Keep (G2 ++ ((G ++ R) ++ F2)) (F0 ++ ((G3 ++ R) ++ F2)) F2 H2 H3 := by
      refine ⟨fun b hb o h => fr3.keep b o h (f2g b hb), fun b o hb h => fr3.keep b o h fun z => hb (by simp [z]), fr3.tup, fr3.frz, fun b hb hn z => ?_⟩
      simp only [List.mem_append, not_or] at hb z
      rcases z with z | (z | z) | z
      · exact (newd b (List.mem_append_right _ z)).elim hb.2.1.1 hn
      · exact (newd b (List.mem_append_left _ z)).elim hb.2.1.1 hn
      · exact hb.2.1.2 z
      · exact hb.2.2 z
    have ep3 : EP X.K cl (G3 ++ R) F0 F2 σ H3 env1 := by
      refine ⟨ep2.sl.keep kp, ep2.nd, fun b hb z => ?_, fun b hb z => ?_, nd'.2.1, fun b hb => ⟨fun z => ?_, (off b (List.mem_append_right _ hb)).2⟩, fun b hb => ofin.tracked b hb, fun p hp => fr3.tabs _ _ (ep2.tabs p hp)⟩
      · rcases List.mem_append.mp z with z | z
        · exact (off b (List.mem_append_left _ z)).2 hb
        · exact ep2.ap b hb (List.mem_append_right _ z)
      · rcases List.mem_append.mp hb with y | y
        · exact ow.tracked b y z
        · exact ep2.vd b (List.mem_append_right _ y) (fr3.back b z)
      · rcases List.mem_append.mp z with z | z
        · exact nd'.2.2 b z b hb rfl
        · exact (off b (List.mem_append_right _ hb)).1 z
    obtain ⟨F4, er4, sub4⟩ := ep3.put hi (ofin.weak fun b hb => by
      simp only [List.mem_append] at hb ⊢
      rcases hb with z | (z | z) | z <;> simp [z])
    rw [set_self h1] at er4
    refine kq w H3 F4 G3 ⟨by rw [← List.append_assoc]; exact er4.sl, er4.nd, fun b hb z => er4.ap b hb (List.mem_append_right _ z), fun b hb => er4.vd b (List.mem_append_right _ hb), nd'.1, fun b hb => ⟨(off b (List.mem_append_left _ hb)).1, fun z => er4.ap b z (List.mem_append_left _ hb)⟩, fun b hb => ow.tracked b hb, er4.tabs⟩ (ow.weak fun b hb => ?_)
      ⟨fun b o h hb => fr3.keep b o (fr2.keep b o (s1 _ _ h) fun z => hb (sub b (List.mem_append_right _ z))) fun z => hb (sub b (List.mem_append_left _ z)), fun b vs0 h => fr3.tup b vs0 (fr2.tup b vs0 (s1 _ _ h)), fun b o u0 h => fr3.frz b o u0 (fr2.frz b o u0 (s1 _ _ h)), fun b h => Same.back s1 (fr2.back b (fr3.back b h)), fun b hb => ?_, fun P n t => fr3.tabs P n (fr2.tabs P n (s1.tabs P n t))⟩
    · simp only [List.mem_append] at hb ⊢
      rcases hb with z | z | z
      · exact .inl z
      · exact .inr (.inl (.inl z))
      · exact (sub4 b z).elim (fun y => .inr (.inl (.inr y))) fun y => .inr (.inr y)
    · have two : b ∈ G ∨ H2 b = none → b ∈ F ∨ H b = none := fun y => y.elim (fun z => .inl (sub b (List.mem_append_left _ z))) fun z => .inr (Same.back s1 (fr2.back b z))
      rcases List.mem_append.mp hb with z | z
      · exact two (newd b (List.mem_append_left _ z))
      · rcases sub4 b z with y | y
        · exact (fr2.new b (List.mem_append_right _ y)).elim (fun z => .inl (sub b (List.mem_append_right _ z))) fun z => .inr (Same.back s1 z)
        · exact two (newd b (List.mem_append_right _ y))⟩
end
/-! ### methods by the head's facts -/
section
variable {P : Program} {w : World} {K : PySem.W.Frag} {h : Heap} {mg : Str → Option Value} {base : Heap} {cl : Cl} {fa : List He.Fa} {fn : List He.DefD}
theorem cb_mk {k np : Nat} {io : List Nat} {at_ : Addr → Prop} {sem : List D → Option (D × List D)} {dfl : List D} {ps : List Str} (c : He.SaysD fa fn K) (j : Nat) (d : He.DefD) (hd : fn[j]? = some d) (hat : at_ (He.fAd K d.at_))
    (ok : ∀ fd, FunD K d.name d.qual d.params d.body d.scope (d.dvs K) (d.kws K) (He.fAd K d.at_) fd → FnOk P w K mg base CX0 k (He.fAd K d.at_) fd ps (spF K cl np io sem))
    (bd : ∀ fd, FunD K d.name d.qual d.params d.body d.scope (d.dvs K) (d.kws K) (He.fAd K d.at_) fd → BindsD K cl fd ps dfl) (len : ∀ ds r, sem ds = some r → ds.length = np) : CB P w K mg base cl k at_ sem io np dfl := by
  obtain ⟨fd, F⟩ := c.def_ j hd
  obtain ⟨dvs, ds, h1, h2, h3⟩ := bd fd F
  exact ⟨⟨_, fd, ps, dvs, ds, ok fd F, hat, h1, h2, h3⟩, len⟩
end
end Tg

namespace Tg
open PySem PySem.Spec L2 RT RZ PyProof.Rows
/-! ### list(reversed(x)) -/
section
variable {prog : Program} {w : World} {A : Around} {E : Value → Shared → Prop} {s : Shared}
theorem listExt_walk {R : Result → Shared → Prop} {it S : Addr} {T : String} {fp wr : List Addr} {n : Nat} {P : Nat → Value → Prop} {St : Nat → Heap → Prop} (W : Walks prog w A.in1 it fp wr n P St) (res : Value)
    (hT : ∀ h i, St i h → ∃ o, h.get? it = some o ∧ o.cls = .type T) (ht : ((Value.type T == Value.type "list") = false ∧ (Value.type T == Value.type "tuple") = false) ∧ (false || ["set", "frozenset", "dict", "dict_keys", "dict_values", "dict_items"].any (Value.type T == .type ·)) = false)
    (hint : ∀ (s : Shared) (Q : Bool → Shared → Prop) (E : Value → Shared → Prop), s.TypeIs (.ref it) T → Q false s → wpAny (model prog w) A.in1 (Builtin.List.listLengthHint (.ref it)) Q E s)
    (hn : n ≤ sizeLine) (hSf : S ∉ fp) (hI : it ∈ fp) (hst : St 0 s.heap) (c₀ : Nat) (hS : s.heap.get? S = some { cls := .type "list", data := .seq #[] c₀ })
    (hR : ∀ h' tk acc c, (∀ b o, b ∉ S :: wr → s.heap.get? b = some o → h'.get? b = some o) → h'.get? S = some { cls := .type "list", dict := none, data := .seq acc c, slots := #[] } → ItemsOf P acc n → R (.ok (.ret res)) { s with heap := h', toks := tk }) :
    wpAny (model prog w) A.in1 (Builtin.List.listExtendWith (.ref S) (.ref it) res)
      (fun fin s' => match fin with | .done f => R (.ok f) s' | .again c' => c'.quiet = true ∧ codeAny (model prog w) A c' R s') (fun e s' => R (.error e) s') s := by
  have hSI : S ≠ it := fun e => hSf (e ▸ hI)
  have hTy : s.TypeIs (.ref it) T := hT s.heap 0 hst
  unfold Builtin.List.listExtendWith
  refine wpAny_bind (wpAny_typeOf hTy ?_)
  rw [if_neg (by rw [show Builtin.List.listSameRef (.ref S) (.ref it) = false by simp [Builtin.List.listSameRef, hSI], ht.1.1, ht.1.2]; decide)]
  refine wpAny_bind (W.self 0 _ _ _ hst (wpAny_bind (wpAny_holding (hint _ _ _ hTy ?_))))
  have key := ht.2
  rw [if_neg (by intro hh; exact absurd (hh.symm.trans key) (by decide))]
  refine wpAny_pure ⟨plainId_quiet F.plain_extend_loop _, codeAny_extend_loopS W.toS hn _ hSf _ n 0 _ _ _ rfl (Nat.zero_le _) hst hS (ItemsOf.nil _) fun s' acc c hm hS' ha => ?_⟩
  rw [Moved.eq_with hm]
  exact hR s'.heap s'.toks acc c hm.heap hS' ha
theorem list_of_walk {Q : Value → Shared → Prop} {it : Addr} {T : String} {fp wr : List Addr} {n : Nat} {P : Nat → Value → Prop} {St : Nat → Heap → Prop} (W : Walks prog w A.in1.in1 it fp wr n P St)
    (hT : ∀ h i, St i h → ∃ o, h.get? it = some o ∧ o.cls = .type T) (ht : ((Value.type T == Value.type "list") = false ∧ (Value.type T == Value.type "tuple") = false) ∧ (false || ["set", "frozenset", "dict", "dict_keys", "dict_values", "dict_items"].any (Value.type T == .type ·)) = false)
    (hint : ∀ (s : Shared) (Q : Bool → Shared → Prop) (E : Value → Shared → Prop), s.TypeIs (.ref it) T → Q false s → wpAny (model prog w) A.in1.in1 (Builtin.List.listLengthHint (.ref it)) Q E s)
    (hn : n ≤ sizeLine) (hfp : ∀ b ∈ fp, b < s.heap.objs.size) (hI : it ∈ fp) (hst : St 0 s.heap)
    (hQ : ∀ h' tk acc c, (∀ b o, b ∉ wr → s.heap.get? b = some o → h'.get? b = some o) → h'.get? s.heap.objs.size = some { cls := .type "list", dict := none, data := .seq acc c, slots := #[] } → ItemsOf P acc n → Q (.ref s.heap.objs.size) { s with heap := h', toks := tk }) :
    wpAny (model prog w) A (call (.type "list") [.ref it]) Q E s := by
  have hSf : s.heap.objs.size ∉ fp := fun hm => Nat.lt_irrefl _ (hfp _ hm)
  refine callType_codes (Q₁ := fun obj s₁ => obj = .ref s.heap.objs.size ∧ s₁ = { s with heap := s.heap.push { cls := .type "list", data := .seq #[] } }) F.called_list (F.typeCall_list_1 _) F.entry_list_init (code_list_new _ ⟨rfl, rfl⟩) fun obj s₁ h₁ => ?_
  obtain ⟨rfl, rfl⟩ := h₁
  have hS : (s.heap.push { cls := .type "list", data := .seq #[] }).get? s.heap.objs.size = some { cls := .type "list", data := .seq #[] } := Heap.get?_push_size _ rfl
  refine ⟨⟨_, hS, rfl⟩, F.args_list_init_2 _ _, ?_⟩
  show wpAny _ _ (do let old ← Builtin.List.listItems (.ref s.heap.objs.size); Builtin.List.listUpdate (.ref s.heap.objs.size) (fun _ => #[]); letGo old.toList.reverse; Builtin.List.listExtendWith (.ref s.heap.objs.size) (.ref it) .none) _ _ _
  refine wpAny_bind ?_; unfold Builtin.List.listItems; refine wpAny_bind (wpAny_seqItems hS rfl (wpAny_pure ?_))
  show wpAny _ _ (updateSeq s.heap.objs.size (fun _ => #[]) >>= fun _ => letGo (#[] : Array Value).toList.reverse >>= fun _ => Builtin.List.listExtendWith (.ref s.heap.objs.size) (.ref it) .none) _ _ _
  refine wpAny_bind (wpAny_updateSeq hS rfl (wpAny_bind (wpAny_letGo ?_)))
  have hS2 := Heap.get?_update_self (Obj.mapSeq (fun _ => (#[] : Array Value))) hS rfl
  have oth : ∀ b o, b ≠ s.heap.objs.size → s.heap.get? b = some o → ((s.heap.push { cls := .type "list", data := .seq #[] }).update s.heap.objs.size (Obj.mapSeq (fun _ => (#[] : Array Value)))).get? b = some o :=
    fun b o hb e => (Heap.get?_update_other _ _ (Ne.symm hb)).trans (Heap.get?_push_of_some _ e)
  refine listExt_walk (A := A.in1) W .none hT ht hint hn hSf hI (W.frame 0 _ _ hst fun b hb o e => oth b o (fun z => hSf (z ▸ hb)) e) _ hS2 fun h' tk acc c hk hS' ha => ?_
  exact ⟨rfl, hQ h' tk acc c (fun b o hb e => hk b o (fun z => (List.mem_cons.mp z).elim (fun z => Nat.lt_irrefl _ (z ▸ Heap.lt_size e)) hb) (oth b o (fun z => Nat.lt_irrefl _ (z ▸ Heap.lt_size e)) e)) hS' ha⟩
theorem hint_rev {it : Addr} (s : Shared) (Q : Bool → Shared → Prop) (E : Value → Shared → Prop) (hT : s.TypeIs (.ref it) "list_reverseiterator") (h : Q false s) : wpAny (model prog w) A (Builtin.List.listLengthHint (.ref it)) Q E s := by
  unfold Builtin.List.listLengthHint
  refine wpAny_bind (wpAny_specialOf hT nolen_lri ?_)
  show wpAny _ A (specialOf (Value.ref it) (Str.ofString "__length_hint__") >>= _) _ _ _
  refine wpAny_bind (wpAny_specialOf hT hint_lri ?_)
  generalize hid : ("list_reverseiterator.__length_hint__" : String) = id0
  wp_delta
  rw [show splitId id0 = some ("list_reverseiterator", "__length_hint__") from by subst hid; decide +kernel]
  subst hid
  exact wpAny_bind (wpAny_isInstance (b := true) hT (by rw [isSubtype_type]; kernel_rfl) (wpAny_pure h))
end
/-- list(reversed(x)), x a list -/
def tListRev (K : PySem.W.Frag) (te : TE) : TE := fun σ H Q => te σ H fun v H1 => ∃ (a : Addr) (xs : List V), v = .ref a ∧ SqL K H1 a xs ∧ ∀ q, H1 q = none → Q (.ref q) (upd H1 q (.lst xs.reverse))
section
variable {X : Cx} {cl : Cl} {f : EE}
theorem pe_listRev {e : Expr} {te : TE} {p p2 pos pos2 : Pos} (hc : X.calm = true) (hgl : Gl X "list") (hml : X.mg "list" = none) (hgr : Gl X "reversed") (hmr : X.mg "reversed" = none) (he : PE X e te)
    (ha : starEach [e] X.env = (false, eval e X.env) :: starEach [] X.env := by rfl)
    (hb : starEach [.Call (.Name "reversed" p2) [e] [] pos2] X.env = (false, eval (.Call (.Name "reversed" p2) [e] [] pos2) X.env) :: starEach [] X.env := by rfl) :
    PE X (.Call (.Name "list" p) [.Call (.Name "reversed" p2) [e] [] pos2] [] pos) (tListRev X.K te) := ⟨fun pins s σ H Q I h => by
  refine Call_ (ld_blt I hgl hml (by rfl) (PyProof.Rows.callWith_type1 (args_cons (Call_ (ld_blt I hgr hmr PyProof.Rows.boot_reversed (PyProof.Rows.callWith_type1 (args_cons (thn (he.run pins s σ H _ I h) fun u0 s1 ⟨v0, H1, I1, rv0, qv0⟩ => args_nil ?_) ha) ha rfl))) hb) hb rfl))
  obtain ⟨b, xs, rfl, hq, q⟩ := qv0
  cases (show u0 = Value.ref b from rv0)
  obtain ⟨its, rvs, pl, hz⟩ := I1.list hq
  refine call_reversed_list pl.isList (args_nil ?_)
  obtain ⟨ol, hol, _⟩ := id pl.isList
  have hbn : b ≠ s1.heap.objs.size := Nat.ne_of_lt (Heap.lt_size hol)
  have hn : its.toArray.size ≤ sizeLine := by rw [List.size_toArray, ← rvs.length]; exact hz
  have W := Walks.listRev (prog := X.prog) (w := X.w) (A := X.A.in1.in1) (show X.A.in1.in1.handled = none from I1.ok.hd hc) s1.heap.objs.size b hbn its.toArray
  refine list_of_walk (s := { s1 with heap := s1.heap.push (revObj b ((its.toArray.size : Int) - 1)) }) W (T := "list_reverseiterator") (fun g i st => ⟨st.2.1.choose, st.2.1.choose_spec.1, st.2.1.choose_spec.2.1⟩) ⟨⟨by decide, by decide⟩, by decide⟩ (fun s2 R2 E2 hT h2 => hint_rev s2 R2 E2 hT h2) hn (fun x hx => ?_) (by simp) ⟨Nat.zero_le _, ?_, pl.isList.push _⟩ fun h' tk acc c hk hS hi => ?_
  · show x < (s1.heap.push _).objs.size
    rw [Heap.size_push]
    have hx' : x = s1.heap.objs.size ∨ x = b := by simpa using hx
    rcases hx' with rfl | rfl
    · exact Nat.lt_succ_self _
    · exact Nat.lt_succ_of_lt (Heap.lt_size hol)
  · have e0 : ((its.toArray.size : Nat) : Int) - 1 - ((0 : Nat) : Int) = (its.toArray.size : Int) - 1 := by omega
    rw [e0]
    exact ⟨_, Heap.get?_push_size _ rfl, rfl, rfl⟩
  · have hkk : ∀ x o, s1.heap.get? x = some o → h'.get? x = some o := fun x o ho => hk x o (fun z => Nat.lt_irrefl _ ((List.mem_singleton.mp z) ▸ Heap.lt_size ho)) (Heap.get?_push_of_some _ ho)
    have hsz : (s1.heap.push (revObj b ((its.toArray.size : Int) - 1))).objs.size = s1.heap.objs.size + 1 := Heap.size_push _ _
    rw [hsz] at hS
    have hge : s1.heap.objs.size ≤ s1.heap.objs.size + 1 := Nat.le_succ _
    refine ⟨.ref (s1.heap.objs.size + 1), upd H1 (s1.heap.objs.size + 1) (.lst xs.reverse), I1.laid (t' := tk) hkk hge (show ObjOk X.prog X.w _ _ _ (.lst xs.reverse) from ⟨by rw [List.length_reverse]; exact hz, acc.toList, c, vals_rev rvs hi, by rw [Array.toArray_toList]; exact hS⟩), ?_, q _ (I1.hok.fresh hge)⟩
    show Value.ref _ = _
    rw [hsz]⟩
def gListRev : D → Option D
  | .lst _ xs => if D.shs xs then some (.lst true xs.reverse) else none
  | _ => none
theorem se_listRev {e : Expr} {p p2 pos pos2 : Pos} (hc : X.calm = true) (hgl : Gl X "list") (hml : X.mg "list" = none) (hgr : Gl X "reversed") (hmr : X.mg "reversed" = none) (he : Pk X cl e f)
    (ha : starEach [e] X.env = (false, eval e X.env) :: starEach [] X.env := by rfl)
    (hb : starEach [.Call (.Name "reversed" p2) [e] [] pos2] X.env = (false, eval (.Call (.Name "reversed" p2) [e] [] pos2) X.env) :: starEach [] X.env := by rfl) :
    Se X cl (.Call (.Name "list" p) [.Call (.Name "reversed" p2) [e] [] pos2] [] pos) (eUn gListRev f) := ⟨fun W env d q σ H E V Q k => by
  obtain ⟨x, e1, e2⟩ := bind1 q
  refine wE.of (pe_listRev hc hgl hml hgr hmr pe_w ha hb) ?_
  refine he.run W env x e1 σ H E V _ fun v H1 F s1 o1 => ?_
  unfold gListRev at e2
  split at e2
  · split at e2
    · rename_i hs
      cases e2
      obtain ⟨a, vs, G, rfl, hp, hv, _⟩ := own_lst o1
      refine ⟨a, vs, rfl, SqL.of hp, fun p hp2 => ?_⟩
      exact (show Po X.K cl W H1 _ Q from fun v H2 F2 s2 o2 n2 f2 => k v H2 F2 (s1.trans s2) o2 n2 fun b hb => Same.back s1 (f2 b hb)).lst (hv.shs hs).shsR p hp2
    · cases e2
  · cases e2⟩
end
end Tg

namespace Tg
open PySem PySem.Spec L2 RT RZ PyProof.Rows
section
variable {X : Cx} {cl : Cl} {f : EE} {a : Expr} {pos apos : Pos}
/-- how many bits an int has -/
def bitsI (i : Int) : Nat := if i == 0 then 0 else i.natAbs.log2 + 1
def gBits : D → Option D
  | .int i => some (.int (bitsI i))
  | _ => none
theorem se_bits (he : Pk X cl a f) (hbase : attributeBase a "bit_length" X.env (eval a X.env) = eval a X.env := by rfl) (hline : (apos.endLine == pos.line) = true := by rfl) : Se X cl (.Call (.Attribute a "bit_length" apos) [] [] pos) (eUn gBits f) := ⟨fun W env d q σ H E V Q k => by
  obtain ⟨x, e1, e2⟩ := bind1 q
  refine wE.of (pe_bits pe_w hbase hline) ?_
  refine he.run W env x e1 σ H E V _ fun v H1 F s1 o1 => ?_
  unfold gBits at e2
  split at e2
  · cases e2
    cases own_int o1
    exact ⟨_, rfl, k _ H1 [] s1 (.int _) List.nodup_nil fun _ z => nomatch z⟩
  · cases e2⟩
end
end Tg

namespace Tg
open PySem PySem.Spec L2
/-! ### keys as trees -/
def isKey0 : D → Bool
  | .int _ => true
  | .str _ => true
  | _ => false
def isKey : Nat → D → Bool
  | 0, d => isKey0 d
  | 1, .tup xs => xs.all isKey0
  | _, _ => false
def putD (y v : D) (ds : List (D × D)) : List (D × D) := if (lookD y ds).isSome then ds.map (fun p => if D.keq p.1 y then (p.1, v) else p) else ds ++ [(y, v)]
def kT (ks : List Key) : D := .tup (ks.map kD)
theorem keqs_kD : ∀ a b : List Key, D.keqs (a.map kD) (b.map kD) = decide (a = b)
  | [], [] => rfl
  | [], _ :: _ => rfl
  | _ :: _, [] => rfl
  | x :: a, y :: b => by
    show (D.keq (kD x) (kD y) && D.keqs (a.map kD) (b.map kD)) = _
    rw [keq_kD, keqs_kD a b]
    by_cases h1 : x = y <;> by_cases h2 : a = b <;> simp [h1, h2]
theorem keq_kT (a b : List Key) : D.keq (kT a) (kT b) = decide (a = b) := keqs_kD a b
section
variable {K : PySem.W.Frag} {cl : Cl} {W : List Addr} {H : Hp} {κ : Type} [DecidableEq κ] {kd : κ → D}
theorem look_own (hk : ∀ a b, D.keq (kd a) (kd b) = decide (a = b)) (k : κ) : ∀ {kvs : List (κ × V)} {ds : List (D × D)} {F : List Addr}, kvs.map (fun p => kd p.1) = ds.map (·.1) → Owns K cl W H (kvs.map (·.2)) (ds.map (·.2)) F →
    (∀ d, lookD (kd k) ds = some d → ∃ v G, valV kvs k = some v ∧ Own K cl W H v d G ∧ ∀ a ∈ G, a ∈ F) ∧ (lookD (kd k) ds = none → valV kvs k = none)
  | [], [], _, _, _ => ⟨fun d h => (nomatch h), fun _ => rfl⟩
  | [], _ :: _, _, e, _ => by simp at e
  | _ :: _, [], _, e, _ => by simp at e
  | p :: r, (k', x) :: r', _, e, o => by
    have hh : kd p.1 = k' ∧ r.map (fun p => kd p.1) = r'.map (·.1) := by simpa using e
    obtain ⟨rfl, hr⟩ := hh
    cases o with
    | cons o os =>
      rename_i G1 G2
      obtain ⟨i1, i2⟩ := look_own hk k hr os
      have hc := hk p.1 k
      refine ⟨fun d hd => ?_, fun hd => ?_⟩
      · unfold lookD at hd
        by_cases h : p.1 = k
        · rw [hc, decide_eq_true h, if_pos rfl] at hd
          cases hd
          exact ⟨p.2, G1, valV_pos h, o, fun a ha => List.mem_append_left _ ha⟩
        · rw [hc, decide_eq_false h, if_neg (by decide)] at hd
          obtain ⟨v, G, h1, h2, h3⟩ := i1 d hd
          exact ⟨v, G, by rw [valV_neg h]; exact h1, h2, fun a ha => List.mem_append_right _ (h3 a ha)⟩
      · unfold lookD at hd
        by_cases h : p.1 = k
        · rw [hc, decide_eq_true h, if_pos rfl] at hd
          cases hd
        · rw [hc, decide_eq_false h, if_neg (by decide)] at hd
          rw [valV_neg h]
          exact i2 hd
theorem look_isSome (hk : ∀ a b, D.keq (kd a) (kd b) = decide (a = b)) (k : κ) : ∀ {kvs : List (κ × V)} {ds : List (D × D)}, kvs.map (fun p => kd p.1) = ds.map (·.1) → (kvs.any fun kv => decide (kv.1 = k)) = (lookD (kd k) ds).isSome
  | [], [], _ => rfl
  | [], _ :: _, e => by simp at e
  | _ :: _, [], e => by simp at e
  | p :: r, (k', x) :: r', e => by
    have hh : kd p.1 = k' ∧ r.map (fun p => kd p.1) = r'.map (·.1) := by simpa using e
    obtain ⟨rfl, hr⟩ := hh
    have ih := look_isSome hk k hr
    rw [List.any_cons, ih]
    unfold lookD
    rw [hk p.1 k]
    by_cases h : p.1 = k
    · rw [decide_eq_true h, if_pos rfl]; rfl
    · rw [decide_eq_false h, if_neg (by decide), Bool.false_or]; cases r' <;> rfl
theorem map_own (hk : ∀ a b, D.keq (kd a) (kd b) = decide (a = b)) (k : κ) {u : V} {y : D} (oy : Own K cl W H u y []) : ∀ {kvs : List (κ × V)} {ds : List (D × D)} {F : List Addr}, kvs.map (fun p => kd p.1) = ds.map (·.1) → Owns K cl W H (kvs.map (·.2)) (ds.map (·.2)) F →
    ∃ G, (kvs.map (fun kv => if kv.1 = k then (kv.1, u) else kv)).map (fun p => kd p.1) = (ds.map (fun p => if D.keq p.1 (kd k) then (p.1, y) else p)).map (·.1) ∧
      Owns K cl W H ((kvs.map (fun kv => if kv.1 = k then (kv.1, u) else kv)).map (·.2)) ((ds.map (fun p => if D.keq p.1 (kd k) then (p.1, y) else p)).map (·.2)) G ∧ (∀ a ∈ G, a ∈ F) ∧ (F.Nodup → G.Nodup)
  | [], [], _, _, .nil => ⟨[], rfl, .nil, fun _ h => h, fun h => h⟩
  | [], _ :: _, _, e, _ => by simp at e
  | _ :: _, [], _, e, _ => by simp at e
  | p :: r, (k', x) :: r', _, e, o => by
    have hh : kd p.1 = k' ∧ r.map (fun p => kd p.1) = r'.map (·.1) := by simpa using e
    obtain ⟨rfl, hr⟩ := hh
    cases o with
    | cons o os =>
      rename_i G1 G2
      obtain ⟨G, i1, i2, i3, i4⟩ := map_own hk k oy hr os
      by_cases h : p.1 = k
      · refine ⟨[] ++ G, ?_, ?_, fun a ha => List.mem_append_right _ (i3 a ha), fun hn => i4 (List.nodup_append.mp hn).2.1⟩
        · simp only [List.map_cons, hk p.1 k, decide_eq_true h, if_pos h, if_true]
          rw [i1]
        · simp only [List.map_cons, hk p.1 k, decide_eq_true h, if_pos h, if_true]
          exact .cons oy i2
      · refine ⟨G1 ++ G, ?_, ?_, fun a ha => ?_, fun hn => ?_⟩
        · simp only [List.map_cons, hk p.1 k, decide_eq_false h, if_neg h, Bool.false_eq_true, if_false]
          rw [i1]
        · simp only [List.map_cons, hk p.1 k, decide_eq_false h, if_neg h, Bool.false_eq_true, if_false]
          exact .cons o i2
        · rcases List.mem_append.mp ha with z | z
          · exact List.mem_append_left _ z
          · exact List.mem_append_right _ (i3 a z)
        · have n := List.nodup_append.mp hn
          exact List.nodup_append.mpr ⟨n.1, i4 n.2.1, fun a ha b hb => n.2.2 a ha b (i3 b hb)⟩
theorem put_own (hk : ∀ a b, D.keq (kd a) (kd b) = decide (a = b)) (k : κ) {u : V} {y : D} {Gy : List Addr} (oy : Own K cl W H u y Gy) {kvs : List (κ × V)} {ds : List (D × D)} {F : List Addr} (e : kvs.map (fun p => kd p.1) = ds.map (·.1)) (o : Owns K cl W H (kvs.map (·.2)) (ds.map (·.2)) F)
    (hc : y.sh = true ∨ (lookD (kd k) ds).isSome = false) : ∃ G, (putK kvs k u).map (fun p => kd p.1) = (putD (kd k) y ds).map (·.1) ∧ Owns K cl W H ((putK kvs k u).map (·.2)) ((putD (kd k) y ds).map (·.2)) G ∧ (∀ a ∈ G, a ∈ F ∨ a ∈ Gy) ∧ ((F ++ Gy).Nodup → G.Nodup) := by
  have hs := look_isSome hk k e
  unfold putK putD
  by_cases h : (lookD (kd k) ds).isSome = true
  · rw [if_pos (by rw [hs]; exact h), if_pos h]
    have hy : y.sh = true := hc.elim id fun z => by rw [h] at z; cases z
    have := oy.sh hy
    subst this
    obtain ⟨G, h1, h2, h3, h4⟩ := map_own hk k oy e o
    exact ⟨G, h1, h2, fun a ha => .inl (h3 a ha), fun hn => h4 (by rwa [List.append_nil] at hn)⟩
  · rw [if_neg (by rw [hs]; exact h), if_neg h]
    refine ⟨F ++ (Gy ++ []), by simp [e], ?_, fun a ha => ?_, fun hn => by rwa [List.append_nil]⟩
    · rw [List.map_append, List.map_append]
      exact Owns.append o (.cons oy .nil)
    · rw [List.append_nil] at ha
      exact List.mem_append.mp ha
end
section
variable {K : PySem.W.Frag} {cl : Cl} {W : List Addr} {H : Hp} {v : V} {F : List Addr}
theorem own_key0 {d : D} (h : Own K cl W H v d F) (hk : isKey0 d = true) : ∃ k : Key, v = kV k ∧ d = kD k := by
  cases h <;> first | (cases hk; done) | skip
  · exact ⟨.inl _, rfl, rfl⟩
  · rename_i x
    exact ⟨.inr ⟨x.toArray⟩, rfl, rfl⟩
theorem owns_key0 : ∀ {vs : List V} {ds : List D} {F : List Addr}, Owns K cl W H vs ds F → ds.all isKey0 = true → ∃ ks : List Key, vs = ks.map kV ∧ ds = ks.map kD
  | _, _, _, .nil, _ => ⟨[], rfl, rfl⟩
  | _, _, _, .cons o os, h => by
    rw [List.all_cons, Bool.and_eq_true] at h
    obtain ⟨k, rfl, rfl⟩ := own_key0 o h.1
    obtain ⟨ks, rfl, rfl⟩ := owns_key0 os h.2
    exact ⟨k :: ks, rfl, rfl⟩
theorem own_dic0 {o : Bool} {ds : List (D × D)} (h : Own K cl W H v (.dic o 0 ds) F) : ∃ a kvs G, v = .ref a ∧ H a = some (.dK kvs) ∧ kvs.map (fun p => kD p.1) = ds.map (·.1) ∧ Owns K cl W H (kvs.map (·.2)) (ds.map (·.2)) G ∧ ∀ b ∈ G, b ∈ F := by
  cases h with
  | dicO h e hs => exact ⟨_, _, _, rfl, h, e, hs, fun b hb => List.mem_cons_of_mem _ hb⟩
  | dicF h hn e hs => exact ⟨_, _, _, rfl, h, e, hs, fun b hb => hb⟩
theorem own_dic1 {o : Bool} {ds : List (D × D)} (h : Own K cl W H v (.dic o 1 ds) F) : ∃ a kvs G, v = .ref a ∧ H a = some (.dT kvs) ∧ kvs.map (fun p => kT p.1) = ds.map (·.1) ∧ Owns K cl W H (kvs.map (·.2)) (ds.map (·.2)) G ∧ ∀ b ∈ G, b ∈ F := by
  cases h with
  | dtO h e hs => exact ⟨_, _, _, rfl, h, e, hs, fun b hb => List.mem_cons_of_mem _ hb⟩
  | dtF h hn e hs => exact ⟨_, _, _, rfl, h, e, hs, fun b hb => hb⟩
/-- what a dict holds at a key -/
theorem own_dget {n : Nat} {o : Bool} {ds : List (D × D)} {dy : D} {y : V} {W' Fy : List Addr} (h : Own K cl W H v (.dic o n ds) F) (hy : Own K cl W' H y dy Fy) (hk : isKey n dy = true) :
    ∃ a r, v = .ref a ∧ IsD H a ∧ DGet H a y r ∧ (∀ d, lookD dy ds = some d → ∃ u G, r = some u ∧ Own K cl W H u d G ∧ ∀ b ∈ G, b ∈ F) ∧ (lookD dy ds = none → r = none) := by
  match n with
  | 0 =>
    obtain ⟨a, kvs, G, rfl, h1, h2, h3, h4⟩ := own_dic0 h
    obtain ⟨k, rfl, rfl⟩ := own_key0 hy hk
    obtain ⟨q1, q2⟩ := look_own keq_kD k h2 h3
    refine ⟨a, valV kvs k, rfl, .inl ⟨kvs, .inl h1⟩, DGet.k h1, fun d hd => ?_, q2⟩
    obtain ⟨u, G', g1, g2, g3⟩ := q1 d hd
    exact ⟨u, G', g1, g2, fun b hb => h4 b (g3 b hb)⟩
  | 1 =>
    cases dy <;> first | (cases hk; done) | skip
    rename_i xs
    obtain ⟨a, kvs, G, rfl, h1, h2, h3, h4⟩ := own_dic1 h
    obtain ⟨b, vs, rfl, hb, hvs⟩ := own_tupH hy
    obtain ⟨ks, rfl, rfl⟩ := owns_key0 hvs hk
    obtain ⟨q1, q2⟩ := look_own (kd := kT) keq_kT ks h2 h3
    refine ⟨a, valV kvs ks, rfl, .inr ⟨kvs, .inl h1⟩, DGet.t h1 hb, fun d hd => ?_, q2⟩
    obtain ⟨u, G', g1, g2, g3⟩ := q1 d hd
    exact ⟨u, G', g1, g2, fun b hb => h4 b (g3 b hb)⟩
  | n + 2 => cases hk
end
/-! ### d[k], k in d, d.get(k), d.get(k, x) -/
def gDG : D → D → Option D
  | .dic _ n ds, y => if isKey n y then lookD y ds else none
  | _, _ => none
def gDIn : D → D → Option D
  | y, .dic _ n ds => if isKey n y then some (.bl (lookD y ds).isSome) else none
  | _, _ => none
def gDNotIn : D → D → Option D
  | y, .dic _ n ds => if isKey n y then some (.bl (!(lookD y ds).isSome)) else none
  | _, _ => none
def eDGet2 (f g h : EE) : EE := fun env => (f env).bind fun x => match x with
  | .dic _ n ds => (g env).bind fun y => (h env).bind fun z => if isKey n y then some ((lookD y ds).getD z) else none
  | _ => none
def eDGet1 (f g : EE) : EE := fun env => (f env).bind fun x => match x with
  | .dic _ n ds => (g env).bind fun y => if isKey n y then some ((lookD y ds).getD .non) else none
  | _ => none
section
variable {X : Cx} {cl : Cl} {io : List Nat} {a b c e : Expr} {f g h : EE} {pos apos : Pos} {i : Nat} {p : EP1}
theorem pk_dget (hu : X.A.units + 64 < cLine) (ha : Pk X cl a f) (hb : Pk X cl b g) (hs : NoSl b) : Pk X cl (.Subscript a b pos) (eOp gDG f g) := ⟨fun W env d q σ H E V Q k => by
  obtain ⟨dx, dy, e1, e2, e3⟩ := bind2 q
  unfold gDG at e3
  split at e3
  rotate_left
  · cases e3
  rename_i ob n ds
  split at e3
  rotate_left
  · cases e3
  rename_i hk
  refine wE.of (pe_dget (by omega) pe_w pe_w hs) ?_
  refine ha.run W env _ e1 σ H E V _ fun v H1 F s1 o1 => ?_
  refine hb.run W env _ e2 σ H1 (E.mono s1) (V.mono s1) _ fun u H2 G s2 o2 => ?_
  obtain ⟨a, r, rfl, _, h2, h3, _⟩ := own_dget (o1.mono s2) o2 hk
  obtain ⟨w, G', rfl, h4, _⟩ := h3 d e3
  exact ⟨a, w, rfl, h2, k w H2 G' (s1.trans s2) h4⟩⟩
theorem pk_dget2 (hu : X.A.units + 64 < cLine) (ha : Pk X cl a f) (hb : Pk X cl b g) (hc : Pk X cl c h) {cpos : Pos} (m : M2 X a "get" apos b c cpos) : Pk X cl (.Call (.Attribute a "get" apos) [b, c] [] cpos) (eDGet2 f g h) := ⟨fun W env d q σ H E V Q k => by
  unfold eDGet2 at q
  obtain ⟨dx, e1, q1⟩ := bind1 q
  split at q1
  rotate_left
  · cases q1
  rename_i ob n ds
  obtain ⟨dy, dz, e2, e3, e4⟩ := bind2 q1
  split at e4
  rotate_left
  · cases e4
  rename_i hk
  cases e4
  refine wE.of (pe_dget2 (by omega) pe_w pe_w pe_w m) ?_
  refine ha.run W env _ e1 σ H E V _ fun v H1 F s1 o1 => ?_
  have hd : ∃ a, v = .ref a ∧ IsD H1 a := by
    match n, hk with
    | 0, _ =>
      obtain ⟨a, kvs, G, rfl, h1, _⟩ := own_dic0 o1
      exact ⟨a, rfl, .inl ⟨kvs, .inl h1⟩⟩
    | 1, _ =>
      obtain ⟨a, kvs, G, rfl, h1, _⟩ := own_dic1 o1
      exact ⟨a, rfl, .inr ⟨kvs, .inl h1⟩⟩
    | n + 2, hk => cases hk
  obtain ⟨a', rfl, isd⟩ := hd
  refine ⟨a', rfl, isd, ?_⟩
  refine hb.run W env _ e2 σ H1 (E.mono s1) (V.mono s1) _ fun u H2 G s2 o2 => ?_
  refine hc.run W env _ e3 σ H2 (E.mono (s1.trans s2)) (V.mono (s1.trans s2)) _ fun w H3 G3 s3 o3 => ?_
  obtain ⟨a, r, e, _, h2, h3, h5⟩ := own_dget (o1.mono (s2.trans s3)) (o2.mono s3) hk
  cases e
  cases hl : lookD dy ds with
  | none =>
    have := h5 hl
    subst this
    rw [hl] at k
    exact ⟨none, h2, k w H3 G3 ((s1.trans s2).trans s3) o3⟩
  | some d =>
    obtain ⟨u', G', rfl, h4, _⟩ := h3 d hl
    rw [hl] at k
    exact ⟨_, h2, k u' H3 G' ((s1.trans s2).trans s3) h4⟩⟩
theorem pk_dget1 (hu : X.A.units + 64 < cLine) (ha : Pk X cl a f) (hb : Pk X cl b g) {cpos : Pos} (m : M1 X a "get" apos b cpos) : Pk X cl (.Call (.Attribute a "get" apos) [b] [] cpos) (eDGet1 f g) := ⟨fun W env d q σ H E V Q k => by
  unfold eDGet1 at q
  obtain ⟨dx, e1, q1⟩ := bind1 q
  split at q1
  rotate_left
  · cases q1
  rename_i ob n ds
  obtain ⟨dy, e2, e4⟩ := bind1 q1
  split at e4
  rotate_left
  · cases e4
  rename_i hk
  cases e4
  refine wE.of (pe_dget1 (by omega) pe_w pe_w m) ?_
  refine ha.run W env _ e1 σ H E V _ fun v H1 F s1 o1 => ?_
  have hd : ∃ a, v = .ref a ∧ IsD H1 a := by
    match n, hk with
    | 0, _ =>
      obtain ⟨a, kvs, G, rfl, h1, _⟩ := own_dic0 o1
      exact ⟨a, rfl, .inl ⟨kvs, .inl h1⟩⟩
    | 1, _ =>
      obtain ⟨a, kvs, G, rfl, h1, _⟩ := own_dic1 o1
      exact ⟨a, rfl, .inr ⟨kvs, .inl h1⟩⟩
    | n + 2, hk => cases hk
  obtain ⟨a', rfl, isd⟩ := hd
  refine ⟨a', rfl, isd, ?_⟩
  refine hb.run W env _ e2 σ H1 (E.mono s1) (V.mono s1) _ fun u H2 G s2 o2 => ?_
  obtain ⟨a, r, e, _, h2, h3, h5⟩ := own_dget (o1.mono s2) o2 hk
  cases e
  cases hl : lookD dy ds with
  | none =>
    have := h5 hl
    subst this
    rw [hl] at k
    exact ⟨none, h2, k .non H2 [] (s1.trans s2) .non⟩
  | some d =>
    obtain ⟨u', G', rfl, h4, _⟩ := h3 d hl
    rw [hl] at k
    exact ⟨_, h2, k u' H2 G' (s1.trans s2) h4⟩⟩
theorem go_dIn (hu : X.A.units + 64 < cLine) : GO X cl (compareOp .In) gDIn := ⟨fun dy dx d q => by
  unfold gDIn at q
  split at q
  rotate_left
  · cases q
  rename_i ob n ds
  split at q
  rotate_left
  · cases q
  rename_i hk
  cases q
  refine ⟨fun y x H Q => ∃ a o, x = .ref a ∧ DGet H a y o ∧ Q (.bl o.isSome) H, fun pins s σ H x y v u Q I rx ry h => ?_, fun W H x y Fx Fy V ox oy Q k => ?_⟩
  · obtain ⟨a, o, rfl, h1, h2⟩ := h
    cases ry
    exact d_in (by omega) I h1 rx fun s' I' => ⟨.bl _, H, I', rfl, h2⟩
  · obtain ⟨a, r, rfl, _, h2, h3, h5⟩ := own_dget oy ox hk
    refine ⟨a, r, rfl, h2, ?_⟩
    cases hl : lookD dy ds with
    | none =>
      have := h5 hl
      subst this
      rw [hl] at k
      exact k.bl
    | some d =>
      obtain ⟨u', G', rfl, _, _⟩ := h3 d hl
      rw [hl] at k
      exact k.bl⟩
theorem go_dNotIn (hu : X.A.units + 64 < cLine) : GO X cl (compareOp .NotIn) gDNotIn := ⟨fun dy dx d q => by
  unfold gDNotIn at q
  split at q
  rotate_left
  · cases q
  rename_i ob n ds
  split at q
  rotate_left
  · cases q
  rename_i hk
  cases q
  refine ⟨fun y x H Q => ∃ a o, x = .ref a ∧ DGet H a y o ∧ Q (.bl (!o.isSome)) H, fun pins s σ H x y v u Q I rx ry h => ?_, fun W H x y Fx Fy V ox oy Q k => ?_⟩
  · obtain ⟨a, o, rfl, h1, h2⟩ := h
    cases ry
    exact d_notIn (by omega) I h1 rx fun s' I' => ⟨.bl _, H, I', rfl, h2⟩
  · obtain ⟨a, r, rfl, _, h2, h3, h5⟩ := own_dget oy ox hk
    refine ⟨a, r, rfl, h2, ?_⟩
    cases hl : lookD dy ds with
    | none =>
      have := h5 hl
      subst this
      rw [hl] at k
      exact k.bl
    | some d =>
      obtain ⟨u', G', rfl, _, _⟩ := h3 d hl
      rw [hl] at k
      exact k.bl⟩
/-! ### {} and d[k] = v -/
def eDNew (n : Nat) : EE := fun _ => some (.dic true n [])
theorem se_dnew0 : Se X cl (.Dict [] [] pos) (eDNew 0) := ⟨fun W env d q σ H E V Q k => by
  cases q
  refine wE.of pe_dnewK fun p hp => ?_
  exact k _ _ [p] (same_new hp) (Own.dicO (F := []) (kvs := []) upd_same rfl .nil) (by simp) fun a ha => by rw [List.mem_singleton.mp ha]; exact hp⟩
theorem se_dnew1 : Se X cl (.Dict [] [] pos) (eDNew 1) := ⟨fun W env d q σ H E V Q k => by
  cases q
  refine wE.of pe_dnewT fun p hp => ?_
  exact k _ _ [p] (same_new hp) (Own.dtO (F := []) (kvs := []) upd_same rfl .nil) (by simp) fun a ha => by rw [List.mem_singleton.mp ha]; exact hp⟩
def sDPut (i : Nat) (p : EP1) (k e : EE) : SS := fun env => (e env).bind fun y => (p env).bind fun l => match getAt i l env with
  | some (.dic true n ds) => (k env).bind fun d => if isKey n d && decide (ds.length < line) && (y.sh || !(lookD d ds).isSome) then some (.nx (setAt i l (.dic true n (putD d y ds)) env)) else none
  | _ => none
theorem sm_dput (hu : X.A.units + 64 < cLine) (he : Se X cl e f) (ha : Pt X cl a i p) (hb : Pk X cl b g) {spos : Pos} (hs : swapsWith e (some (.Subscript a b pos)) spos.line X.env = pure false := by rfl) : Sm X cl io (.Assign [.Subscript a b pos] e spos) (sDPut i p g f) := ⟨fun R F env fl q σ H E D k => by
  unfold sDPut at q
  obtain ⟨y, e1, q0⟩ := bind1 q
  obtain ⟨l, e2, q1⟩ := bind1 q0
  split at q1
  rotate_left
  · cases q1
  rename_i n ds hg
  obtain ⟨dk, e3, q2⟩ := bind1 q1
  split at q2
  rotate_left
  · cases q2
  rename_i hcond
  cases q2
  simp only [Bool.and_eq_true, decide_eq_true_eq, Bool.or_eq_true, Bool.not_eq_true'] at hcond
  obtain ⟨⟨hk, hlen⟩, hsh⟩ := hcond
  obtain ⟨v, qa, Gx, F1, F2, h1, h2, h3, h4, h5, h6, h7⟩ := E.nodeU hg rfl
  have gx := (List.nodup_cons.mp h5).2
  have gnF : ∀ x ∈ Gx, x ∈ F := fun x hx => h6 x (List.mem_cons_of_mem _ hx)
  refine wS.of (ps_dput (by omega) pe_w pe_w pe_w hs) ?_
  refine he.run _ env y e1 σ H E.ev E.vd' _ fun u H1 Gy s1 o1 n1 f1 => ?_
  refine ha.run _ env l e2 σ H1 (E.ev.mono s1) (E.vd'.mono s1) v _ h1 (h2.mono s1) _ fun H2 s2 => ?_
  refine hb.run _ env _ e3 σ H2 (E.ev.mono (s1.trans s2)) (E.vd'.mono (s1.trans s2)) _ fun w H3 G3 s3 o3 => ?_
  have s := (s1.trans s2).trans s3
  have w2 : Own X.K cl ((Gx ++ Gy) ++ (R ++ F)) H3 u y Gy := (o1.mono (s2.trans s3)).weak fun x hx => by
    simp only [List.mem_append] at hx ⊢
    rcases hx with (z | z) | z | z
    · exact .inr (.inr (gnF x z))
    · exact .inl z
    · exact .inr (.inl z)
    · exact .inr (.inr z)
  have grow : ∀ {vs : List V} {xs : List Tg.D}, Owns X.K cl (R ++ F) H vs xs Gx → Owns X.K cl ((Gx ++ Gy) ++ (R ++ F)) H3 vs xs Gx := fun {vs xs} hs' => hs'.growS s fun x hx => by
    simp only [List.mem_append] at hx ⊢
    rcases hx with (z | z) | z | z
    · exact .inl (.inr (gnF x z))
    · exact .inr (f1 x z)
    · exact .inl (.inl z)
    · exact .inl (.inr z)
  have ndg : (Gx ++ Gy).Nodup := List.nodup_append.mpr ⟨gx, n1, fun x hx y hy z => E.sl.tracked x (gnF x hx) (by rw [z]; exact f1 y hy)⟩
  match n, hk with
  | 0, hk =>
    cases h4 with
    | dicO hq en hs' =>
      rename_i kvs
      obtain ⟨kk, rfl, rfl⟩ := own_key0 o3 hk
      obtain ⟨Gn, k3, k4', k1, k2'⟩ := put_own keq_kD kk w2 en (grow hs') hsh
      have k2 : Gn.Nodup := k2' ndg
      have hl : kvs.length < sizeLine := by
        have := congrArg List.length en
        simp at this
        rw [this, ← line_eq]; exact hlen
      refine ⟨qa, _, rfl, DPut.k (s _ _ hq) hl, ?_⟩
      have k4 := k4'.weak (W' := Gn ++ (R ++ F)) fun x hx => by
        rcases List.mem_append.mp hx with z | z
        · exact List.mem_append_left _ (List.mem_append.mpr (k1 x z))
        · exact List.mem_append_right _ z
      have U := h7 H3 Gn [] (.dK (putK kvs kk u)) rfl s (by rw [List.append_nil]; exact k2) (fun x hx => (k1 x hx).elim .inl fun z => .inr (f1 x z)) (fun _ z => nomatch z)
      obtain ⟨ep, fr⟩ := U.done (.dic true 0 (putD (kD kk) y ds)) (.dicO upd_same k3 (U.kids _ _ k4))
      exact k σ _ _ ep.er fr Pin.refl
  | 1, hk =>
    cases h4 with
    | dtO hq en hs' =>
      rename_i kvs
      cases dk <;> first | (cases hk; done) | skip
      rename_i xs
      obtain ⟨b', vs, rfl, hb', hvs⟩ := own_tupH o3
      obtain ⟨ks, rfl, rfl⟩ := owns_key0 hvs hk
      obtain ⟨Gn, k3, k4', k1, k2'⟩ := put_own (kd := kT) keq_kT ks w2 en (grow hs') hsh
      have k2 : Gn.Nodup := k2' ndg
      have hl : kvs.length < sizeLine := by
        have := congrArg List.length en
        simp at this
        rw [this, ← line_eq]; exact hlen
      refine ⟨qa, _, rfl, DPut.t (s _ _ hq) hb' hl, ?_⟩
      have k4 := k4'.weak (W' := Gn ++ (R ++ F)) fun x hx => by
        rcases List.mem_append.mp hx with z | z
        · exact List.mem_append_left _ (List.mem_append.mpr (k1 x z))
        · exact List.mem_append_right _ z
      have U := h7 H3 Gn [] (.dT (putK kvs ks u)) rfl s (by rw [List.append_nil]; exact k2) (fun x hx => (k1 x hx).elim .inl fun z => .inr (f1 x z)) (fun _ z => nomatch z)
      obtain ⟨ep, fr⟩ := U.done (.dic true 1 (putD (kT ks) y ds)) (.dtO upd_same k3 (U.kids _ _ k4))
      exact k σ _ _ ep.er fr Pin.refl
  | n + 2, hk => cases hk⟩
end
end Tg

namespace Tg
open PySem PySem.Spec L2 PyProof.Rows
/-! ### set(a list of ints) -/
/-- an empty set, as it is made -/
def es0 (w : World) : Obj := ⟨.type "set", none, .set #[] 0 (.fresh 0 0 (!w.params.followText "set-order")), #[]⟩
section
variable {P : Program} {w : World} {A : Around} {E : Value → Shared → Prop} {s : Shared}
theorem es0_zero {h : Heap} {a : Addr} {ns : List Int} (ho : h.get? a = some (es0 w)) : SetR w h a (fun j => decide (j ∈ ns.take 0)) 0 := setR_new_at ho
theorem set_init_ints {A' : Around} {S l : Addr} {us : Array Value} (ns : List Int) {R : Result → Shared → Prop} (hh : A.in1.handled = none) (hS : s.heap.get? S = some (es0 w)) (hl : s.heap.IsList l us) (hi : IntsAre us.toList ns)
    (hb : ns.length + 1 < scanBound) (hSl : S ≠ l)
    (k : ∀ h' tk c, SetR w h' S (fun j => decide (j ∈ ns)) c → c ≤ ns.length → (∀ b o, b ≠ S → s.heap.get? b = some o → h'.get? b = some o) → R (.ok (.ret .none)) { s with heap := h', toks := tk }) :
    wpAny (model P w) A (Builtin.«set.__init__» ⟨[.ref S, .ref l], []⟩)
      (fun fin s' => match fin with | .done f => R (.ok f) s' | .again c' => c'.quiet = true ∧ codeAny (model P w) A' c' R s') (fun e s' => R (.error e) s') s := by
  have us_len : us.size = ns.length := by
    have := hi.length
    rwa [Array.length_toList] at this
  obtain ⟨ob, hob, hoc, nn, hod⟩ := id hl
  obtain ⟨oc, od, odd, os⟩ := ob
  simp only at hoc hod
  subst hoc hod
  have b1 := F.sub_list_set
  have b2 := F.sub_list_frozenset
  have b3 : (Value.type "list" == Value.type "dict") = false := by decide
  unfold Builtin.«set.__init__»
  unfold noKeywords
  unfold Builtin.Frozenset.updateFrom
  generalize hpi : pyIter = pit
  wp_walk
  subst hpi
  have szI : (s.heap.push { cls := .type "list_iterator", data := .fields #[.ref l, .int 0 0] }).get? S = some (es0 w) := Heap.get?_push_of_some _ hS
  have lI : l ≠ s.heap.objs.size := Nat.ne_of_lt (Heap.lt_size hob)
  have SI : S ≠ s.heap.objs.size := Nat.ne_of_lt (Heap.lt_size hS)
  refine wpAny_pyIter_list hl (wpAny_bind (wpAny_runValue ?_))
  have vals : ∀ (i : Nat) (v : Value), us[i]? = some v → ∃ z t, ns[i]? = some z ∧ v = .int z t := fun i v hv => by
    have hi' : i < ns.length := by
      have := (Array.getElem?_eq_some_iff.mp hv).1
      omega
    obtain ⟨t, e⟩ := hi.int_at i v (by rwa [Array.getElem?_toList])
    refine ⟨ns[i], t, List.getElem?_eq_getElem hi', ?_⟩
    rw [e, List.getD_eq_getElem?_getD, List.getElem?_eq_getElem hi']
    rfl
  have W := (Walks.list (prog := P) (w := w) (A := A.in1) hh s.heap.objs.size l lI us).toS
  refine set_update_ints W S (by simp only [List.mem_cons, List.not_mem_nil, or_false, not_or]; exact ⟨SI, hSl⟩) ns us_len hb vals (us.size - 0) 0 _ (by omega) (Nat.zero_le _)
    ⟨⟨_, Heap.get?_push_size _ rfl, rfl, rfl⟩, hl.push _⟩ ⟨0, Nat.le_refl 0, es0_zero szI⟩ fun s' c hm hc hR => ?_
  have e1 := hm.gens
  have e2 := hm.drawn
  have e3 := hm.os
  cases s' with
  | mk h' g' d' t' o' =>
    simp only at e1 e2 e3
    subst e1 e2 e3
    refine wpAny_pure ?_
    refine wpAny_pure (k h' t' c hR (by omega) fun b o hb0 e => ?_)
    exact hm.heap b o (by simp only [List.mem_cons, List.not_mem_nil, or_false, not_or]; exact ⟨hb0, Nat.ne_of_lt (Heap.lt_size e)⟩) (Heap.get?_push_of_some _ e)
theorem call_set_ints {l : Addr} {us : Array Value} (ns : List Int) {Q : Value → Shared → Prop} (hh : A.handled = none) (hl : s.heap.IsList l us) (hi : IntsAre us.toList ns) (hb : ns.length + 1 < scanBound)
    (k : ∀ h' tk c, SetR w h' s.heap.objs.size (fun j => decide (j ∈ ns)) c → c ≤ ns.length → (∀ b o, s.heap.get? b = some o → h'.get? b = some o) → Q (.ref s.heap.objs.size) { s with heap := h', toks := tk }) :
    wpAny (model P w) A (call (.type "set") [.ref l]) Q E s := by
  have tc := F.called_set
  obtain ⟨c0, tl, g1⟩ := tc.mro
  have g2 := tc.made
  have g3 := tc.sub
  have g4 := tc.notType
  have g5 := tc.canCreate
  have g6 := F.typeCall_set_1 (.ref l)
  refine wpAny_call (codeAny_of_tree ?_)
  show wpAny _ _ (callAny (.type "set") _) _ _ _
  refine wpAny_pure ⟨Code.quiet_builtin _ (by decide +kernel), codeAny_builtin F.entry_type_call ?_⟩
  rw [Around.under_plain (weight_type_call_type "set" [.ref l] []) rfl]
  repeat (any_goals (first | assumption | wp_step))
  let a0 := s.heap.objs.size
  let hp0 := s.heap.push (es0 w)
  have at0 : hp0.get? a0 = some (es0 w) := Heap.get?_push_size _ rfl
  have lk : l < a0 := by
    obtain ⟨_, h, _⟩ := hl
    exact Heap.lt_size h
  have new := code_set_led1 (P := P) (w := w) (A := A.in1) (E := E) (s := s) (.ref l) (Q₁ := fun o z => o = .ref a0 ∧ z = { s with heap := hp0 }) ⟨rfl, rfl⟩
  refine codeAny_mono new fun r z hz => ?_
  match r, hz with
  | .error e, hz => exact hz
  | .ok (.ret o), hz =>
    obtain ⟨rfl, rfl⟩ := hz
    have ty : Shared.TypeIs { s with heap := hp0 } (.ref a0) "set" := ⟨_, at0, rfl⟩
    have i1 := tc.init.lookup
    have i2 := tc.init.bind (.ref a0)
    repeat (any_goals (first | assumption | wp_step))
    let R0 : Result → Shared → Prop := wants (fun r z => r = .none ∧ ∃ h' tk c, z = { s with heap := h', toks := tk } ∧ SetR w h' a0 (fun j => decide (j ∈ ns)) c ∧ c ≤ ns.length ∧ ∀ b o, s.heap.get? b = some o → h'.get? b = some o) E
    have core := set_init_ints (P := P) (w := w) (A := A.in1.in1) (A' := A.in1) (R := R0) (s := { s with heap := hp0 }) (S := a0) (l := l) ns (by simp [hh]) at0 (hl.push _) hi hb (Nat.ne_of_gt lk)
        fun h' tk c q1 q2 q3 => ⟨rfl, h', tk, c, rfl, q1, q2, fun b o e => q3 b o (Nat.ne_of_lt (Heap.lt_size e)) (Heap.get?_push_of_some _ e)⟩
    have ini := codeAny_call_builtin (prog := P) (w := w) (A := A.in1) (R := R0) (s := { s with heap := hp0 }) tc.init.plain F.entry_set_init (check_set_init_1 (a := .ref l) ty core)
    refine codeAny_mono ini fun r2 z2 hz2 => ?_
    match r2, hz2 with
    | .error e, hz2 => exact hz2
    | .ok (.ret v), hz2 =>
      obtain ⟨rfl, h', tk, c, rfl, q1, q2, q3⟩ := hz2
      repeat (any_goals (first | assumption | wp_step))
      exact k h' tk c q1 q2 q3
    | .ok .next, hz2 => exact hz2.elim
    | .ok .brk, hz2 => exact hz2.elim
    | .ok .cont, hz2 => exact hz2.elim
  | .ok .next, hz => exact hz.elim
  | .ok .brk, hz => exact hz.elim
  | .ok .cont, hz => exact hz.elim
end
end Tg

namespace Tg
open PySem PySem.Spec L2 RT RZ
theorem room100 {k : Nat} {A : Around} (r : Room k A) : A.units + 100 < cLine := by have := r.un; omega
/-! ### sorted lists -/
section
variable {α : Type} (le : α → α → Bool)
def insL (x : α) : List α → List α
  | [] => [x]
  | y :: r => if le x y then x :: y :: r else y :: insL x r
def sortL : List α → List α
  | [] => []
  | x :: r => insL le x (sortL r)
variable {le}
theorem insL_perm (x : α) : ∀ l : List α, (insL le x l).Perm (x :: l)
  | [] => .refl _
  | y :: r => by
    unfold insL
    split
    · exact .refl _
    · exact ((insL_perm x r).cons y).trans (.swap x y r)
theorem sortL_perm : ∀ l : List α, (sortL le l).Perm l
  | [] => .refl _
  | x :: r => (insL_perm x _).trans ((sortL_perm r).cons x)
theorem insL_pw (tot : ∀ a b, le a b = true ∨ le b a = true) (tr : ∀ a b c, le a b = true → le b c = true → le a c = true) (x : α) : ∀ l : List α, l.Pairwise (fun a b => le a b = true) → (insL le x l).Pairwise (fun a b => le a b = true)
  | [], _ => by unfold insL; simp
  | y :: r, h => by
    unfold insL
    have h' := List.pairwise_cons.mp h
    split
    · rename_i hc
      exact List.pairwise_cons.mpr ⟨fun z hz => by
        rcases List.mem_cons.mp hz with rfl | hz
        · exact hc
        · exact tr _ _ _ hc (h'.1 z hz), h⟩
    · rename_i hc
      refine List.pairwise_cons.mpr ⟨fun z hz => ?_, insL_pw tot tr x r h'.2⟩
      rcases List.mem_cons.mp ((insL_perm x r).mem_iff.mp hz) with rfl | hz
      · exact (tot z y).resolve_left (by simpa using hc)
      · exact h'.1 z hz
theorem sortL_pw (tot : ∀ a b, le a b = true ∨ le b a = true) (tr : ∀ a b c, le a b = true → le b c = true → le a c = true) : ∀ l : List α, (sortL le l).Pairwise (fun a b => le a b = true)
  | [] => .nil
  | x :: r => insL_pw tot tr x _ (sortL_pw tot tr r)
theorem sorted_one {r : α → α → Prop} (anti : ∀ a b, r a b → r b a → a = b) : ∀ {l m : List α}, l.Perm m → l.Pairwise r → m.Pairwise r → l = m
  | [], m, p, _, _ => (List.Perm.nil_eq p)
  | x :: l, [], p, _, _ => by have := p.length_eq; simp at this
  | x :: l, y :: m, p, h1, h2 => by
    have k1 := List.pairwise_cons.mp h1
    have k2 := List.pairwise_cons.mp h2
    have hx : x = y := by
      have m1 : y ∈ x :: l := p.symm.mem_iff.mp List.mem_cons_self
      have m2 : x ∈ y :: m := p.mem_iff.mp List.mem_cons_self
      rcases List.mem_cons.mp m1 with e | e
      · exact e.symm
      · rcases List.mem_cons.mp m2 with e2 | e2
        · exact e2
        · exact anti x y (k1.1 y e) (k2.1 x e2)
    subst hx
    rw [sorted_one anti (List.Perm.cons_inv p) k1.2 k2.2]
theorem sortL_eq (tot : ∀ a b, le a b = true ∨ le b a = true) (tr : ∀ a b c, le a b = true → le b c = true → le a c = true) (anti : ∀ a b, le a b = true → le b a = true → a = b) {l m : List α} (p : l.Perm m) (h : l.Pairwise (fun a b => le a b = true)) : l = sortL le m :=
  sorted_one (r := fun a b => le a b = true) anti (p.trans (sortL_perm m).symm) h (sortL_pw tot tr m)
end
def leI (a b : Int) : Bool := decide (a ≤ b)
def leP (a b : Int × Int) : Bool := decide (a.1 < b.1 ∨ (a.1 = b.1 ∧ a.2 ≤ b.2))
def sortI (ns : List Int) : List Int := sortL leI ns
def sortP (ns : List (Int × Int)) : List (Int × Int) := sortL leP ns
theorem sortI_eq {l m : List Int} (p : l.Perm m) (h : l.Pairwise (· ≤ ·)) : l = sortI m :=
  sortL_eq (fun a b => by simp only [leI, decide_eq_true_eq]; omega) (fun a b c => by simp only [leI, decide_eq_true_eq]; omega) (fun a b => by simp only [leI, decide_eq_true_eq]; omega) p (h.imp fun h => by simpa [leI] using h)
theorem leP_anti (a b : Int × Int) : leP a b = true → leP b a = true → a = b := by
  obtain ⟨a1, a2⟩ := a
  obtain ⟨b1, b2⟩ := b
  simp only [leP, decide_eq_true_eq, Prod.mk.injEq]
  omega
theorem leP_tot (a b : Int × Int) : leP a b = true ∨ leP b a = true := by simp only [leP, decide_eq_true_eq]; omega
theorem leP_tr (a b c : Int × Int) : leP a b = true → leP b c = true → leP a c = true := by simp only [leP, decide_eq_true_eq]; omega
theorem sortP_eq {l m : List (Int × Int)} (p : l.Perm m) (h : l.Pairwise (fun a b => leP a b = true)) : l = sortP m := sortL_eq leP_tot leP_tr leP_anti p h
/-- each once, rising -/
def insU (x : Int) : List Int → List Int
  | [] => [x]
  | y :: r => if x < y then x :: y :: r else if x = y then y :: r else y :: insU x r
def sortU : List Int → List Int
  | [] => []
  | x :: r => insU x (sortU r)
theorem insU_mem (x k : Int) : ∀ l : List Int, k ∈ insU x l ↔ k = x ∨ k ∈ l
  | [] => by simp [insU]
  | y :: r => by
    unfold insU
    split
    · simp
    · split
      · rename_i h; subst h; simp
      · rw [List.mem_cons, insU_mem x k r, List.mem_cons]
        constructor
        · rintro (h | h | h) <;> simp [h]
        · rintro (h | h | h) <;> simp [h]
theorem sortU_mem (k : Int) : ∀ l : List Int, k ∈ sortU l ↔ k ∈ l
  | [] => Iff.rfl
  | x :: r => by
    show k ∈ insU x (sortU r) ↔ _
    rw [insU_mem, sortU_mem k r, List.mem_cons]
theorem insU_pw (x : Int) : ∀ l : List Int, l.Pairwise (· < ·) → (insU x l).Pairwise (· < ·)
  | [], _ => by simp [insU]
  | y :: r, h => by
    have h' := List.pairwise_cons.mp h
    unfold insU
    split
    · rename_i hc
      exact List.pairwise_cons.mpr ⟨fun z hz => by
        rcases List.mem_cons.mp hz with rfl | hz
        · exact hc
        · exact Int.lt_trans hc (h'.1 z hz), h⟩
    · split
      · exact h
      · rename_i h1 h2
        refine List.pairwise_cons.mpr ⟨fun z hz => ?_, insU_pw x r h'.2⟩
        rcases (insU_mem x z r).mp hz with rfl | hz
        · omega
        · exact h'.1 z hz
theorem sortU_pw : ∀ l : List Int, (sortU l).Pairwise (· < ·)
  | [] => .nil
  | x :: r => insU_pw x _ (sortU_pw r)
theorem sortU_eq {l m : List Int} (h : l.Pairwise (· < ·)) (e : ∀ k : Int, k ∈ l ↔ k ∈ m) : l = sortU m := by
  have n1 : l.Nodup := h.imp fun h => Int.ne_of_lt h
  have n2 : (sortU m).Nodup := (sortU_pw m).imp fun h => Int.ne_of_lt h
  exact sorted_one (r := fun a b : Int => a < b) (fun a b h1 h2 => absurd h1 (Int.lt_asymm h2)) ((List.perm_ext_iff_of_nodup n1 n2).mpr fun k => (e k).trans (sortU_mem k m).symm) h (sortU_pw m)
/-! ### sorted(set(e)), e a list of ints -/
section
variable {X : Cx}
theorem cr_setL (hc : X.calm = true) : CallR X (.type "set") (fun xs H Q => ∃ (a : Addr) (ns : List Int), xs = [.ref a] ∧ SqL X.K H a (ns.map V.int) ∧ ns.length < 63 ∧ ∀ p c, H p = none → c ≤ ns.length → Q (.ref p) (upd H p (SetO X.w p (fun j => decide (j ∈ ns)) c))) := by
  intro pins s σ H xs us Q I r h
  obtain ⟨a, ns, rfl, hs, hl, q⟩ := h
  obtain ⟨its, rv, pl, hz⟩ := I.list hs
  rw [Vals.ref1 r]
  refine call_set_ints ns (I.ok.hd hc) pl.isList (by simpa using ints_of_vals rv) (by unfold scanBound; omega) fun h' tk c g1 g2 g3 => ?_
  have hn := I.hok.fresh (Nat.le_refl s.heap.objs.size)
  exact ⟨.ref _, upd H s.heap.objs.size (SetO X.w s.heap.objs.size (fun j => decide (j ∈ ns)) c), I.laid (t' := tk) (fun b u e => g3 b u e) (Nat.le_refl _) (setO_new g1), rfl, q _ c hn g2⟩
end
def gSortedSet : D → Option D
  | .lst _ xs => (intsD xs).bind fun ns => if ns.length < 63 then some (.lst true ((sortU ns).map .int)) else none
  | _ => none
section
variable {X : Cx} {cl : Cl} {f : EE} {a : Expr}
theorem se_sortedSet {p p2 pos pos2 : Pos} (hc : X.calm = true) (hg : Gl X "sorted") (hm : X.mg "sorted" = none) (hg2 : Gl X "set") (hm2 : X.mg "set" = none) (ha : Pk X cl a f)
    (h1 : starEach [a] X.env = (false, eval a X.env) :: starEach [] X.env := by rfl) (h2 : starEach [.Call (.Name "set" p2) [a] [] pos2] X.env = (false, eval (.Call (.Name "set" p2) [a] [] pos2) X.env) :: starEach [] X.env := by rfl)
    (hpl : (backTo pos (starEach [] X.env)).any (·.1) = false := by rfl) (hpl2 : (backTo pos2 (starEach [] X.env)).any (·.1) = false := by rfl) :
    Se X cl (.Call (.Name "sorted" p) [.Call (.Name "set" p2) [a] [] pos2] [] pos) (eUn gSortedSet f) := ⟨fun W env d q σ H E V Q k => by
  obtain ⟨dx, e1, e2⟩ := bind1 q
  refine wE.of (pe_callB (cr_sortedSet hc) hg hm (by decide +kernel) (pa_cons (pe_callTy (cr_setL hc) hg2 hm2 (by decide +kernel) (pa_cons pe_w pa_nil h1) (by decide) (by decide) h1 hpl2) pa_nil h2) (by decide) (by decide) h2 hpl) ?_
  refine ha.run W env dx e1 σ H E V _ fun v H1 F s1 o1 => ?_
  unfold gSortedSet at e2
  split at e2
  rotate_left
  · cases e2
  rename_i ob xs
  obtain ⟨ns, e3, e4⟩ := bind1 e2
  split at e4
  rotate_left
  · cases e4
  rename_i hl
  cases e4
  rw [intsD_eq e3] at o1
  obtain ⟨a', vs, G, rfl, hp, hv, _⟩ := own_lst o1
  have := own_intsV hv
  subst this
  refine ⟨a', ns, rfl, SqL.of hp, hl, fun p1 c hp1 hcl => ?_⟩
  refine ⟨p1, _, c, rfl, upd_same, by omega, fun ms p2 g1 g2 g3 hp2 => ?_⟩
  have em : ms = sortU ns := sortU_eq g1 fun k => by rw [g2 k]; simp
  subst em
  have s2 : Same H1 (upd H1 p1 (SetO X.w p1 (fun j => decide (j ∈ ns)) c)) := same_new hp1
  exact Po.lst (fun v H3 F3 s3 o3 n3 f3 => k v H3 F3 ((s1.trans s2).trans s3) o3 n3 fun b hb => Same.back (s1.trans s2) (f3 b hb)) own_ints p2 hp2⟩
end
/-! ### sorted(e), e a list of ints, a list or a dict of pairs -/
def pairD (p : Int × Int) : D := .tup [.int p.1, .int p.2]
def pairsD : List D → Option (List (Int × Int))
  | [] => some []
  | .tup [.int i, .int j] :: r => (pairsD r).map fun l => (i, j) :: l
  | _ => none
theorem pairsD_eq : ∀ {ds : List D} {ns : List (Int × Int)}, pairsD ds = some ns → ds = ns.map pairD
  | [], ns, h => by cases h; rfl
  | d :: r, ns, h => by
    unfold pairsD at h
    split at h
    · rename_i hh; cases hh
    · rename_i i j r' hh
      cases hh
      cases e : pairsD r with
      | none => rw [e] at h; cases h
      | some l =>
        rw [e] at h
        cases h
        rw [pairsD_eq e]
        rfl
    · cases h
theorem shs_pairs (ns : List (Int × Int)) : D.shs (ns.map pairD) = true := by
  induction ns with
  | nil => rfl
  | cons n r ih => show (true && D.shs (r.map pairD)) = true; rw [ih]; rfl
theorem pairsD_map (ns : List (Int × Int)) : pairsD (ns.map pairD) = some ns := by
  induction ns with
  | nil => rfl
  | cons n r ih => show (pairsD (r.map pairD)).map _ = _; rw [ih]; rfl
def small64 (p : Int × Int) : Bool := decide (0 ≤ p.1 ∧ p.1 < 64 ∧ 0 ≤ p.2 ∧ p.2 < 64)
def gSorted : D → Option D
  | .lst _ xs => match intsD xs with
    | some ns => some (.lst true ((sortI ns).map .int))
    | none => (pairsD xs).bind fun ps => if ps.all small64 && decide (ps.length < 64) then some (.lst true ((sortP ps).map pairD)) else none
  | _ => none
theorem Owns.permP {α : Type} {enc : α → D} {K : PySem.W.Frag} {cl : Cl} {W : List Addr} {H : Hp} {vs ws : List V} (p : vs.Perm ws) : ∀ {ps : List α}, Owns K cl W H vs (ps.map enc) [] → ∃ qs : List α, ps.Perm qs ∧ Owns K cl W H ws (qs.map enc) [] := by
  induction p with
  | nil =>
    intro ps o
    cases ps with
    | nil => exact ⟨[], .nil, .nil⟩
    | cons _ _ => cases o
  | @cons x l m hp ih =>
    intro ps o
    cases ps with
    | nil => cases o
    | cons y ps =>
      obtain ⟨v', r, e, h1, h2⟩ := owns_cons0 o
      cases e
      obtain ⟨qs, g1, g2⟩ := ih h2
      exact ⟨y :: qs, g1.cons y, Owns.cons (F := []) (G := []) h1 g2⟩
  | swap x y l =>
    intro ps o
    match ps, o with
    | [], o => cases o
    | [_], o =>
      obtain ⟨v', r, e, h1, h2⟩ := owns_cons0 o
      cases e
      cases h2
    | a :: b :: ps, o =>
      obtain ⟨v', r, e, h1, h2⟩ := owns_cons0 o
      cases e
      obtain ⟨v2, r2, e, h3, h4⟩ := owns_cons0 h2
      cases e
      exact ⟨b :: a :: ps, .swap b a ps, Owns.cons (F := []) (G := []) h3 (Owns.cons (F := []) (G := []) h1 h4)⟩
  | trans _ _ ih1 ih2 =>
    intro ps o
    obtain ⟨qs, g1, g2⟩ := ih1 o
    obtain ⟨rs, g3, g4⟩ := ih2 g2
    exact ⟨rs, g1.trans g3, g4⟩
theorem owns_mem {α : Type} {enc : α → D} {K : PySem.W.Frag} {cl : Cl} {W : List Addr} {H : Hp} : ∀ {vs : List V} {ps : List α}, Owns K cl W H vs (ps.map enc) [] → ∀ x ∈ vs, ∃ p ∈ ps, Own K cl W H x (enc p) []
  | _, [], .nil, x, hx => nomatch hx
  | v :: vs, p :: ps, o, x, hx => by
    obtain ⟨v', r, e, h1, h2⟩ := owns_cons0 o
    cases e
    rcases List.mem_cons.mp hx with rfl | hx
    · exact ⟨p, List.mem_cons_self, h1⟩
    · obtain ⟨q, hq, ho⟩ := owns_mem h2 x hx
      exact ⟨q, List.mem_cons_of_mem _ hq, ho⟩
theorem owns_pw {α : Type} {enc : α → D} {K : PySem.W.Frag} {cl : Cl} {W : List Addr} {H : Hp} {R : V → V → Prop} {r : α → α → Prop} (hr : ∀ x y p q, Own K cl W H x (enc p) [] → Own K cl W H y (enc q) [] → R x y → r p q) : ∀ {vs : List V} {ps : List α}, Owns K cl W H vs (ps.map enc) [] → vs.Pairwise R → ps.Pairwise r
  | _, [], _, _ => .nil
  | _, p :: ps, o, h => by
    obtain ⟨v', r', e, h1, h2⟩ := owns_cons0 o
    cases e
    have h' := List.pairwise_cons.mp h
    refine List.pairwise_cons.mpr ⟨fun q hq => ?_, owns_pw hr h2 h'.2⟩
    obtain ⟨n, hn, e⟩ := List.mem_iff_getElem.mp hq
    have hl := h2.length
    rw [List.length_map] at hl
    obtain ⟨y, G, g1, g2, g3⟩ := h2.get (i := n) (d := enc q) (by rw [List.getElem?_map, List.getElem?_eq_getElem hn, e]; rfl)
    have : G = [] := List.eq_nil_iff_forall_not_mem.mpr fun a ha => nomatch g3 a ha
    subst this
    exact hr _ _ _ _ h1 g2 (h'.1 y (List.mem_of_getElem? g1))
theorem own_pair {K : PySem.W.Frag} {cl : Cl} {W F : List Addr} {H : Hp} {x : V} {p : Int × Int} (o : Own K cl W H x (pairD p) F) : ∃ t, x = .ref t ∧ H t = some (.tup [.int p.1, .int p.2]) := by
  obtain ⟨t, vs, rfl, h1, h2⟩ := own_tupH o
  have hv : vs = [L2.V.int p.1, L2.V.int p.2] := own_intsV (ns := [p.1, p.2]) h2
  subst hv
  exact ⟨t, rfl, h1⟩
theorem pair_le {x y x' y' : Int} (h : TS.code 64 [x, y] ≤ TS.code 64 [x', y']) (b2 : 0 ≤ y ∧ y < 64) (b4 : 0 ≤ y' ∧ y' < 64) : leP (x, y) (x', y') = true := by
  rw [code_pair, code_pair] at h
  simp only [leP, decide_eq_true_eq]
  omega
section
variable {X : Cx} {cl : Cl}
theorem gf_sorted : GF X cl (.builtin "sorted") gSorted := ⟨fun dx d q => by
  unfold gSorted at q
  split at q
  rotate_left
  · cases q
  rename_i ob xs
  split at q
  · rename_i ns e1
    cases q
    refine ⟨_, cr_sortedI, fun W H x Fx V o Q k => ?_⟩
    obtain ⟨a, vs, G, rfl, hp, hv, _⟩ := own_lst o
    rw [intsD_eq e1] at hv
    have := own_intsV hv
    subst this
    refine ⟨a, ns, rfl, SqL.of hp, fun ms p g1 g2 hp2 => ?_⟩
    have em : ms = sortI ns := sortI_eq g1 g2
    subst em
    exact Po.lst k own_ints p hp2
  · obtain ⟨ps, e1, e2⟩ := bind1 q
    split at e2
    rotate_left
    · cases e2
    rename_i hh
    simp only [Bool.and_eq_true, decide_eq_true_eq, List.all_eq_true] at hh
    obtain ⟨hsm, hlen⟩ := hh
    cases e2
    refine ⟨_, cr_sortT (d := 2) (B := 64) (by decide), fun W H x Fx V o Q k => ?_⟩
    obtain ⟨a, vs, G, rfl, hp, hv0, _⟩ := own_lst o
    rw [pairsD_eq e1] at hv0
    have hv := hv0.shs (shs_pairs ps)
    refine ⟨a, vs, rfl, SqL.of hp, by rw [hv.length, List.length_map]; exact hlen, fun x hx => ?_, fun ys p g1 g2 hp2 => ?_⟩
    · obtain ⟨pr, hpr, ox⟩ := owns_mem hv x hx
      obtain ⟨t, rfl, ht⟩ := own_pair ox
      have hb := hsm pr hpr
      simp only [small64, decide_eq_true_eq] at hb
      refine ⟨[pr.1, pr.2], ⟨t, rfl, SqT.of ht⟩, rfl, fun m hm => ?_⟩
      simp only [List.mem_cons, List.not_mem_nil, or_false] at hm
      rcases hm with rfl | rfl <;> omega
    · obtain ⟨qs, h1, h2⟩ := Owns.permP g1.symm hv
      have hq : qs = sortP ps := by
        refine sortP_eq h1.symm ?_
        have g2' : ys.Pairwise (fun x y => x ∈ ys ∧ y ∈ ys ∧ ∀ n m, TupI X.K H x n → TupI X.K H y m → TS.code 64 n ≤ TS.code 64 m) := by
          refine List.Pairwise.imp_of_mem (fun {x y} hx hy h => ⟨hx, hy, h⟩) g2
        refine owns_pw (fun x y p q ox oy h => ?_) h2 g2'
        obtain ⟨t, rfl, ht⟩ := own_pair ox
        obtain ⟨t', rfl, ht'⟩ := own_pair oy
        have hle := h.2.2 [p.1, p.2] [q.1, q.2] ⟨t, rfl, SqT.of ht⟩ ⟨t', rfl, SqT.of ht'⟩
        obtain ⟨p', hp', op⟩ := owns_mem h2 _ h.1
        obtain ⟨q', hq', oq⟩ := owns_mem h2 _ h.2.1
        obtain ⟨t1, e1', h1'⟩ := own_pair op
        obtain ⟨t2, e2', h2'⟩ := own_pair oq
        cases e1'
        cases e2'
        rw [ht] at h1'
        rw [ht'] at h2'
        simp only [Option.some.injEq, HO.tup.injEq, List.cons.injEq, L2.V.int.injEq, and_true] at h1' h2'
        have b1 := hsm p' (h1.mem_iff.mpr hp')
        have b2 := hsm q' (h1.mem_iff.mpr hq')
        simp only [small64, decide_eq_true_eq] at b1 b2
        have ep : p = p' := Prod.ext h1'.1 h1'.2
        have eq : q = q' := Prod.ext h2'.1 h2'.2
        subst ep eq
        exact pair_le hle ⟨b1.2.2.1, b1.2.2.2⟩ ⟨b2.2.2.1, b2.2.2.2⟩
      subst hq
      exact Po.lst k h2 p hp2⟩
end
/-! ### sorted(d), d a dict whose keys are pairs -/
section
variable {X : Cx} {cl : Cl}
theorem paired_get {α β : Type} {R : α → β → Prop} : ∀ {xs : List α} {ys : List β} {i : Nat} {x : α}, Paired R xs ys → xs[i]? = some x → ∃ y, ys[i]? = some y ∧ R x y
  | _, _, _, _, .nil, e => by simp at e
  | _, _, 0, _, .cons r _, e => by simp at e; subst e; exact ⟨_, rfl, r⟩
  | _, _, i + 1, x, .cons _ t, e => by
    obtain ⟨u, h1, h2⟩ := paired_get (i := i) (x := x) t (by simpa using e)
    exact ⟨u, by simpa using h1, h2⟩
theorem cr_sortedDT (hc : X.calm = true) : CallR X (.builtin "sorted") (fun vs H Q => ∃ (d : Addr) (kvs : List (List Key × V)) (ps : List (Int × Int)), vs = [.ref d] ∧ Rd H d (.dT kvs) ∧ kvs.map (·.1) = ps.map (fun p => [Sum.inl p.1, Sum.inl p.2]) ∧
    ps.length < 64 ∧ (∀ p ∈ ps, small64 p = true) ∧ ∀ (bs ys : List Addr) (l : Addr), IsKeys H kvs bs → ys.Perm bs → (ys.map V.ref).Pairwise (fun x y => ∀ n m, TupI X.K H x n → TupI X.K H y m → TS.code 64 n ≤ TS.code 64 m) → H l = none → Q (.ref l) (upd H l (.lst (ys.map V.ref)))) := by
  intro pins s σ H xs us Q I r h
  obtain ⟨d, kvs, ps, rfl, hd, hks, h64, hsm, q⟩ := h
  rw [Vals.ref1 r]
  obtain ⟨z, hs, ks, pr, o, es, ep, ho, hx, hdt, he, hn⟩ := (show ObjOk X.prog X.w H s.heap d (.dT kvs) from hd.ok I.hok)
  have l1 : es.size = ks.length := size_of_entries he
  have l2 : kvs.length = ks.length := Paired.length pr
  have l3 : kvs.length = ps.length := by
    have := congrArg List.length hks
    simpa using this
  have keysR := isKeys_of pr
  generalize hbs : ks.map (fun x => x.2.1) = bs at keysR
  have lb : bs.length = ks.length := by rw [← hbs, List.length_map]
  refine Calls.call_function_entry PyProof.Rows.kind_sorted PyProof.Rows.plain_sorted
    PyProof.Rows.entry_sorted (PyProof.Rows.args_sorted1 _) ?_
  unfold Builtin.«sorted»
  refine wpAny_bind (m := checkCount "sorted" 1 1 _)
    (wpAny_pure ?_)
  refine wpAny_bind (PySem.W.kdu_collect (A := X.A.in1) (kdl_raw hs hx hdt) (I.ok.hd hc) ho (by omega) fun h' tk acc kp it => ?_)
  have ea : acc.toList = bs.map Value.ref := by
    apply List.ext_getElem?
    intro j
    rw [List.getElem?_map, ← hbs, List.getElem?_map]
    have hl : acc.toList.length = ks.length := by rw [Array.length_toList, it.1]; exact l1
    cases hj : acc.toList[j]? with
    | none =>
      rw [List.getElem?_eq_none (show ks.length ≤ j by have := List.getElem?_eq_none_iff.mp hj; omega)]
      rfl
    | some v =>
      obtain ⟨en, hen, rfl⟩ := it.2 j v (by rw [← Array.getElem?_toList]; exact hj)
      have qe := entry_at he j
      rw [hen] at qe
      cases hb : ks[j]? with
      | none => rw [hb] at qe; cases qe
      | some b =>
        rw [hb] at qe
        cases qe
        rfl
  have I1 : Inv X pins σ H { s with heap := h', toks := tk } := I.kept kp
  refine wpAny_bind (wpAny_newList ?_ (by rw [ea, List.length_map, sizeLine_eq]; omega))
  have at1 : (h'.push (PyProof.Rows.seqObj "list" acc.toList.toArray 0)).get? h'.objs.size = some (PyProof.Rows.seqObj "list" acc.toList.toArray 0) := Heap.get?_push_size _ rfl
  have okT : TS.TupsOk (h'.push (PyProof.Rows.seqObj "list" acc.toList.toArray 0)) 2 64 acc.toList := by
    intro v hv
    rw [ea] at hv
    obtain ⟨b, hb, rfl⟩ := List.mem_map.mp hv
    obtain ⟨j, hj⟩ := List.mem_iff_getElem?.mp hb
    have hjl : j < kvs.length := by
      have := (List.getElem?_eq_some_iff.mp hj).1
      omega
    obtain ⟨b', hb', hb2⟩ := paired_get keysR (List.getElem?_eq_getElem hjl)
    rw [hj] at hb'
    cases hb'
    have hk : (kvs.map (·.1))[j]? = some kvs[j].1 := by rw [List.getElem?_map, List.getElem?_eq_getElem hjl]; rfl
    rw [hks, List.getElem?_map] at hk
    obtain ⟨p, hp, hpe⟩ := Option.map_eq_some_iff.mp hk
    have hb3 : H b = some (.tup [.int p.1, .int p.2]) := by rw [hb2, ← hpe]; rfl
    have tr : TS.TupInts h' (.ref b) [p.1, p.2] := tupI_raw (ns := [p.1, p.2]) I1 (SqT.of hb3)
    have sm := hsm p (List.mem_of_getElem? hp)
    simp only [small64, decide_eq_true_eq] at sm
    refine ⟨[p.1, p.2], tr.keeps fun b o e _ => Heap.get?_push_of_some _ e, rfl, fun m hm => ?_⟩
    simp only [List.mem_cons, List.not_mem_nil, or_false] at hm
    rcases hm with rfl | rfl <;> omega
  refine wpAny_bind (wpAny_holding (TS.call_sort_tups (s := { s with heap := h'.push (PyProof.Rows.seqObj "list" acc.toList.toArray 0), toks := tk }) (d := 2) (B := 64) at1
    (by rw [ea, List.length_map]; omega) (by decide) okT fun out g1 g2 => ?_))
  obtain ⟨e1, at2⟩ := PyProof.Rows.sortedHeap_at (vs := acc.toList) (out := out) at1
  obtain ⟨ys, hys, hye⟩ : ∃ ys : List Addr, ys.Perm bs ∧ out.toList = ys.map Value.ref := by
    have bk : ∀ v ∈ out.toList, ∃ b, v = Value.ref b := fun v hv => by
      have := g1.mem_iff.mp hv
      rw [ea] at this
      obtain ⟨b, _, e⟩ := List.mem_map.mp this
      exact ⟨b, e.symm⟩
    let un : Value → Addr := fun v => match v with | .ref a => a | _ => 0
    refine ⟨out.toList.map un, ?_, ?_⟩
    · have := g1.map un
      rw [ea, List.map_map] at this
      rw [show (un ∘ Value.ref) = id from rfl, List.map_id] at this
      exact this
    · rw [List.map_map]
      have : ∀ l : List Value, (∀ v ∈ l, ∃ b, v = Value.ref b) → l = l.map (Value.ref ∘ un) := by
        intro l
        induction l with
        | nil => intro _; rfl
        | cons v l ih =>
          intro hl
          obtain ⟨b, rfl⟩ := hl v List.mem_cons_self
          rw [List.map_cons, ← ih fun w hw => hl w (List.mem_cons_of_mem _ hw)]
          rfl
      exact this _ bk
  have hlen : (ys.map V.ref).length ≤ sizeLine := by
    rw [List.length_map, hys.length_eq, sizeLine_eq]
    omega
  have rvals : Vals (ys.map V.ref) out.toList := by rw [hye]; exact vals_refs _
  have keep2 : ∀ b u, h'.get? b = some u → (PyProof.Rows.sortedHeap (h'.push (PyProof.Rows.seqObj "list" acc.toList.toArray 0)) h'.objs.size acc.toList out).get? b = some u := fun b u e => by
    have hlt := Heap.lt_size e
    rw [PyProof.Rows.sortedHeap_old (Nat.ne_of_lt hlt) (by rw [Heap.size_push]; exact Nat.lt_succ_of_lt hlt)]
    exact Heap.get?_push_of_some _ e
  refine wpAny_pure ⟨_, rfl, .ref h'.objs.size, upd H h'.objs.size (.lst (ys.map V.ref)), I1.laid (t' := tk) keep2 (Nat.le_refl _) ⟨hlen, out.toList, e1, rvals, by rw [Array.toArray_toList]; exact at2⟩, rfl, q bs ys _ keysR hys ?_ (I1.hok.fresh (Nat.le_refl _))⟩
  rw [hye] at g2
  rw [List.pairwise_map]
  rw [List.pairwise_map] at g2
  refine g2.imp fun {x y} hxy n m hn hm => ?_
  obtain ⟨t, et, ht⟩ := hn
  obtain ⟨t', et', ht'⟩ := hm
  cases et
  cases et'
  have i1 : TS.intsOf (h'.push (PyProof.Rows.seqObj "list" acc.toList.toArray 0)) (.ref x) = n := ((tupI_raw I1 ht).keeps fun b o e _ => Heap.get?_push_of_some _ e).ints
  have i2 : TS.intsOf (h'.push (PyProof.Rows.seqObj "list" acc.toList.toArray 0)) (.ref y) = m := ((tupI_raw I1 ht').keeps fun b o e _ => Heap.get?_push_of_some _ e).ints
  rw [← i1, ← i2]
  exact hxy
def gSortedA : D → Option D
  | .dic _ 1 ds => (pairsD (ds.map (·.1))).bind fun ps => if ps.all small64 && decide (ps.length < 64) then some (.lst true ((sortP ps).map pairD)) else none
  | .lst o xs => gSorted (.lst o xs)
  | _ => none
theorem kT_inj {a b : List Key} (h : kT a = kT b) : a = b := by
  have := keq_kT a b
  rw [h] at this
  have h2 := keq_kT b b
  rw [decide_eq_true rfl] at h2
  rw [h2] at this
  exact of_decide_eq_true this.symm
theorem kT_maps : ∀ {ks : List (List Key)} {ps : List (Int × Int)}, ks.map kT = ps.map pairD → ks = ps.map (fun p => [Sum.inl p.1, Sum.inl p.2])
  | [], [], _ => rfl
  | [], _ :: _, h => by simp at h
  | _ :: _, [], h => by simp at h
  | k :: ks, p :: ps, h => by
    rw [List.map_cons, List.map_cons] at h
    injection h with h1 h2
    have : kT k = kT [Sum.inl p.1, Sum.inl p.2] := h1
    rw [kT_inj this, kT_maps h2]
    rfl
theorem owns_keys {K : PySem.W.Frag} {W : List Addr} {H : Hp} : ∀ {kvs : List (List Key × V)} {bs : List Addr} {ps : List (Int × Int)}, IsKeys H kvs bs → kvs.map (·.1) = ps.map (fun p => [Sum.inl p.1, Sum.inl p.2]) → Owns K cl W H (bs.map V.ref) (ps.map pairD) []
  | [], _, [], .nil, _ => .nil
  | [], _, _ :: _, _, h => by simp at h
  | _ :: _, _, [], _, h => by simp at h
  | k :: kvs, b :: bs, p :: ps, .cons hb hr, h => by
    rw [List.map_cons, List.map_cons] at h
    injection h with h1 h2
    rw [h1] at hb
    exact Owns.cons (F := []) (G := []) (.tup hb (own_ints (ns := [p.1, p.2]))) (owns_keys hr h2)
theorem gf_sortedA (hc : X.calm = true) : GF X cl (.builtin "sorted") gSortedA := ⟨fun dx d q => by
  unfold gSortedA at q
  split at q
  rotate_left
  · exact gf_sorted.run _ _ q
  · cases q
  rename_i ob ds
  obtain ⟨ps, e1, e2⟩ := bind1 q
  split at e2
  rotate_left
  · cases e2
  rename_i hh
  simp only [Bool.and_eq_true, decide_eq_true_eq, List.all_eq_true] at hh
  obtain ⟨hsm, hlen⟩ := hh
  cases e2
  refine ⟨_, cr_sortedDT hc, fun W H x Fx V o Q k => ?_⟩
  obtain ⟨a, kvs, G, rfl, h1, h2, h3, _⟩ := own_dic1 o
  have hk : kvs.map (·.1) = ps.map (fun p => [Sum.inl p.1, Sum.inl p.2]) := by
    refine kT_maps ?_
    rw [List.map_map, ← pairsD_eq e1]
    exact h2
  refine ⟨a, kvs, ps, rfl, .inl h1, hk, hlen, hsm, fun bs ys l hb hp hpw hl => ?_⟩
  have hbs := owns_keys (cl := cl) (K := X.K) (W := W) hb hk
  have pV : (bs.map L2.V.ref).Perm (ys.map L2.V.ref) := hp.symm.map _
  obtain ⟨qs, g1, g2⟩ := Owns.permP pV hbs
  have hq : qs = sortP ps := by
    refine sortP_eq g1.symm ?_
    have g2' : (ys.map L2.V.ref).Pairwise (fun x y => x ∈ ys.map L2.V.ref ∧ y ∈ ys.map L2.V.ref ∧ ∀ n m, TupI X.K H x n → TupI X.K H y m → TS.code 64 n ≤ TS.code 64 m) :=
      List.Pairwise.imp_of_mem (fun {x y} hx hy h => ⟨hx, hy, h⟩) hpw
    refine owns_pw (fun x y p q ox oy h => ?_) g2 g2'
    obtain ⟨t, rfl, ht⟩ := own_pair ox
    obtain ⟨t', rfl, ht'⟩ := own_pair oy
    have hle := h.2.2 [p.1, p.2] [q.1, q.2] ⟨t, rfl, SqT.of ht⟩ ⟨t', rfl, SqT.of ht'⟩
    obtain ⟨p', hp', op⟩ := owns_mem g2 _ h.1
    obtain ⟨q', hq', oq⟩ := owns_mem g2 _ h.2.1
    obtain ⟨t1, e1', h1'⟩ := own_pair op
    obtain ⟨t2, e2', h2'⟩ := own_pair oq
    cases e1'
    cases e2'
    rw [ht] at h1'
    rw [ht'] at h2'
    simp only [Option.some.injEq, HO.tup.injEq, List.cons.injEq, L2.V.int.injEq, and_true] at h1' h2'
    have b1 := hsm p' (g1.mem_iff.mpr hp')
    have b2 := hsm q' (g1.mem_iff.mpr hq')
    simp only [small64, decide_eq_true_eq] at b1 b2
    have ep : p = p' := Prod.ext h1'.1 h1'.2
    have eq : q = q' := Prod.ext h2'.1 h2'.2
    subst ep eq
    exact pair_le hle ⟨b1.2.2.1, b1.2.2.2⟩ ⟨b2.2.2.1, b2.2.2.2⟩
  subst hq
  exact Po.lst k g2 l hl⟩
/-! ### in, deep -/
def gInL : D → D → Option D
  | x, .lst o xs => if x.eqok 60 && (D.lst o xs).eqok 60 then some (.bl (xs.any fun y => D.eqv y x)) else none
  | _, _ => none
def gNotInL : D → D → Option D
  | x, .lst o xs => if x.eqok 60 && (D.lst o xs).eqok 60 then some (.bl (!xs.any fun y => D.eqv y x)) else none
  | _, _ => none
theorem any_py {x : D} (hx : x.eqok 60 = true) : ∀ {xs : List D}, D.eqoks 59 xs = true → (D.pys xs).any (fun z => PyData.eqv z x.py) = xs.any fun y => D.eqv y x
  | [], _ => rfl
  | y :: r, h => by
    unfold D.eqoks at h
    rw [Bool.and_eq_true] at h
    show (PyData.eqv y.py x.py || (D.pys r).any _) = _
    rw [List.any_cons, any_py hx h.2, D.py_eqv 59 60 _ _ h.1 hx]
theorem go_inL (hu : X.A.units + 100 < cLine) : GO X cl (compareOp .In) gInL := ⟨fun dx dy d q => by
  unfold gInL at q
  split at q
  rotate_left
  · cases q
  rename_i ob xs
  split at q
  rotate_left
  · cases q
  rename_i hh
  rw [Bool.and_eq_true] at hh
  cases q
  refine ⟨_, op_inD (by omega), fun W H x y Fx Fy V ox oy Q k => ?_⟩
  have h2 : D.eqoks 59 xs = true := hh.2
  refine ⟨dx.py, D.pys xs, ox.dp 60 hh.1, oy.dp 60 hh.2, D.py_shaped (by decide) hh.1, D.py_shaped (by decide) hh.2, ?_⟩
  rw [any_py hh.1 h2]
  exact k.bl⟩
theorem go_notInL (hu : X.A.units + 100 < cLine) : GO X cl (compareOp .NotIn) gNotInL := ⟨fun dx dy d q => by
  unfold gNotInL at q
  split at q
  rotate_left
  · cases q
  rename_i ob xs
  split at q
  rotate_left
  · cases q
  rename_i hh
  rw [Bool.and_eq_true] at hh
  cases q
  refine ⟨_, op_notInD (by omega), fun W H x y Fx Fy V ox oy Q k => ?_⟩
  have h2 : D.eqoks 59 xs = true := hh.2
  refine ⟨dx.py, D.pys xs, ox.dp 60 hh.1, oy.dp 60 hh.2, D.py_shaped (by decide) hh.1, D.py_shaped (by decide) hh.2, ?_⟩
  rw [any_py hh.1 h2]
  exact k.bl⟩
end
end Tg

namespace Tg
open PySem PySem.Spec L2 RT RZ
/-! ### in, by what is there -/
def gInA : D → D → Option D
  | x, .dic o n ds => gDIn x (.dic o n ds)
  | x, .lst o xs => if flat x && xs.all flat then gIn x (.lst o xs) else gInL x (.lst o xs)
  | x, .tup xs => gIn x (.tup xs)
  | x, .str z => gIn x (.str z)
  | _, _ => none
def gNotInA : D → D → Option D
  | x, .dic o n ds => gDNotIn x (.dic o n ds)
  | x, .lst o xs => if flat x && xs.all flat then gNotIn x (.lst o xs) else gNotInL x (.lst o xs)
  | x, .tup xs => gNotIn x (.tup xs)
  | x, .str z => gNotIn x (.str z)
  | _, _ => none
section
variable {X : Cx} {cl : Cl} {io : List Nat} {a b c e : Expr} {f g h : EE} {pos apos : Pos} {i : Nat} {p : EP1} {m : EM}
theorem go_inA (hu : X.A.units + 100 < cLine) : GO X cl (compareOp .In) gInA := ⟨fun dx dy d q => by
  unfold gInA at q
  split at q
  · exact (go_dIn (by omega)).run _ _ _ q
  · split at q
    · exact go_in.run _ _ _ q
    · exact (go_inL hu).run _ _ _ q
  · exact go_in.run _ _ _ q
  · exact go_in.run _ _ _ q
  · cases q⟩
theorem go_notInA (hu : X.A.units + 100 < cLine) : GO X cl (compareOp .NotIn) gNotInA := ⟨fun dx dy d q => by
  unfold gNotInA at q
  split at q
  · exact (go_dNotIn (by omega)).run _ _ _ q
  · split at q
    · exact go_notIn.run _ _ _ q
    · exact (go_notInL hu).run _ _ _ q
  · exact go_notIn.run _ _ _ q
  · exact go_notIn.run _ _ _ q
  · cases q⟩
/-! ### {k: v, ..} -/
def nodupK : List (D × D) → Bool
  | [] => true
  | (k, _) :: r => !(r.any fun p => D.keq p.1 k) && nodupK r
abbrev EPs := Env → Option (List (D × D))
def dpNil : EPs := fun _ => some []
def dpCons (k v : EE) (r : EPs) : EPs := fun env => (k env).bind fun x => (v env).bind fun y => (r env).bind fun z => if isKey0 x && y.sh then some ((x, y) :: z) else none
def eDisp (r : EPs) : EE := fun env => (r env).bind fun ds => if nodupK ds && decide (ds.length ≤ 15) then some (.dic true 0 ds) else none
structure Dp1 (X : Cx) (cl : Cl) (ks : List (Option Expr)) (vs : List Expr) (r : EPs) : Prop where
  run : ∃ trs, (∀ pos, PPs X pos ks vs trs) ∧ ∀ (W : List Addr) (env : Env) (ds : List (D × D)), r env = some ds → ∀ (σ : St) (H : Hp), EV X.K cl W H σ env → VD W H → ∀ Q : List (V × V) → Hp → Prop,
    (∀ (kvs : List (Key × V)) H', Same H H' → kvs.map (fun p => kD p.1) = ds.map (·.1) → Owns X.K cl W H' (kvs.map (·.2)) (ds.map (·.2)) [] → Q (kvs.map fun kv => (kV kv.1, kv.2)) H') → tPairs trs σ H Q
theorem dp_nil : Dp1 X cl [] [] dpNil := ⟨[], fun _ => pps_nil, fun W env ds q σ H E V Q k => by
  cases q
  exact k [] H (Same.refl H) rfl .nil⟩
theorem dp_cons {k v : Expr} {ks : List (Option Expr)} {vs : List Expr} {r : EPs} (hk : Se X cl k f) (hv : Se X cl v g) (hr : Dp1 X cl ks vs r) : Dp1 X cl (some k :: ks) (v :: vs) (dpCons f g r) := by
  obtain ⟨trs, h1, h2⟩ := hr.run
  refine ⟨(wE X k, wE X v) :: trs, fun pos => pps_cons pe_w pe_w (h1 pos), fun W env ds q σ H E V Q kq => ?_⟩
  unfold dpCons at q
  obtain ⟨x, e1, q1⟩ := bind1 q
  obtain ⟨y, e2, q2⟩ := bind1 q1
  obtain ⟨z, e3, q3⟩ := bind1 q2
  split at q3
  rotate_left
  · cases q3
  rename_i hh
  rw [Bool.and_eq_true] at hh
  cases q3
  refine hk.run W env x e1 σ H E V _ fun u H1 F1 s1 o1 n1 f1 => ?_
  refine hv.run W env y e2 σ H1 (E.mono s1) (V.mono s1) _ fun w H2 F2 s2 o2 n2 f2 => ?_
  have := o2.sh hh.2
  subst this
  refine h2 W env z e3 σ H2 (E.mono (s1.trans s2)) (V.mono (s1.trans s2)) _ fun kvs H3 s3 g1 g2 => ?_
  obtain ⟨kk, rfl, rfl⟩ := own_key0 o1 hh.1
  exact kq ((kk, w) :: kvs) H3 ((s1.trans s2).trans s3) (by simp [g1]) (Owns.cons (F := []) (G := []) (o2.mono s3) g2)
theorem mergeK_app : ∀ (kvs acc : List (Key × V)), (∀ p ∈ kvs, ∀ q ∈ acc, q.1 ≠ p.1) → (kvs.map (·.1)).Nodup → mergeK acc kvs = acc ++ kvs
  | [], acc, _, _ => by show acc = _; simp
  | p :: r, acc, h, hn => by
    show mergeK (putK acc p.1 p.2) r = _
    have hn' := List.nodup_cons.mp (by simpa using hn : (p.1 :: r.map (·.1)).Nodup)
    have hv : valV acc p.1 = none := by
      have : (acc.any fun kv => decide (kv.1 = p.1)) = false := by
        rw [List.any_eq_false]
        intro q hq
        simpa using h p List.mem_cons_self q hq
      rw [valV_any] at this
      cases hh : valV acc p.1 with
      | none => rfl
      | some _ => rw [hh] at this; cases this
    rw [putK_new p.2 hv, mergeK_app r _ (fun p' hp' q hq => by
      rcases List.mem_append.mp hq with z | z
      · exact h p' (List.mem_cons_of_mem _ hp') q z
      · rw [List.mem_singleton.mp z]
        intro e
        exact hn'.1 (List.mem_map.mpr ⟨p', hp', e.symm⟩)) hn'.2]
    simp
theorem nodupK_keys : ∀ {kvs : List (Key × V)} {ds : List (D × D)}, kvs.map (fun p => kD p.1) = ds.map (·.1) → nodupK ds = true → (kvs.map (·.1)).Nodup
  | [], _, _, _ => List.nodup_nil
  | p :: r, [], h, _ => by simp at h
  | p :: r, (k, x) :: ds, h, hn => by
    have hh : kD p.1 = k ∧ r.map (fun p => kD p.1) = ds.map (·.1) := by simpa using h
    obtain ⟨rfl, hr⟩ := hh
    unfold nodupK at hn
    rw [Bool.and_eq_true, Bool.not_eq_true', List.any_eq_false] at hn
    rw [List.map_cons]
    refine List.nodup_cons.mpr ⟨fun hm => ?_, nodupK_keys hr hn.2⟩
    obtain ⟨q, hq, e⟩ := List.mem_map.mp hm
    have : kD q.1 ∈ ds.map (·.1) := by rw [← hr]; exact List.mem_map.mpr ⟨q, hq, rfl⟩
    obtain ⟨d, hd, e2⟩ := List.mem_map.mp this
    have h3 := hn.1 d hd
    rw [e2, keq_kD, decide_eq_true e] at h3
    exact absurd rfl h3
theorem se_disp {ks : List (Option Expr)} {vs : List Expr} {r : EPs} (h : Dp1 X cl ks vs r) (hall : ks.all (·.isSome) = true := by rfl) (hl : ks.length = vs.length := by rfl) (h0 : ks ≠ [] := by simp) (h15 : ks.length ≤ 15 := by decide) : Se X cl (.Dict ks vs pos) (eDisp r) := ⟨fun W env d q σ H E V Q k => by
  unfold eDisp at q
  obtain ⟨ds, e1, q1⟩ := bind1 q
  split at q1
  rotate_left
  · cases q1
  rename_i hh
  rw [Bool.and_eq_true, decide_eq_true_eq] at hh
  cases q1
  obtain ⟨trs, h1, h2⟩ := h.run
  refine wE.of (pe_disp (h1 pos) hall hl h0 h15) fun p hp => ?_
  have s0 : Same H (upd H p (.dK [])) := same_new hp
  have V1 : VD (p :: W) (upd H p (.dK [])) := fun a ha => (List.mem_cons.mp ha).elim (fun z => by rw [z, upd_same]; simp) (V.mono s0 a)
  refine h2 (p :: W) env ds e1 σ _ ((E.grow fun a ha => (List.mem_cons.mp ha).elim (fun z => .inr (by rw [z]; exact hp)) .inl).mono s0) V1 _ fun kvs H2 s2 g1 g2 => ?_
  have hp2 : H2 p = some (.dK []) := s2 _ _ upd_same
  have hlen : kvs.length = ds.length := by
    have := congrArg List.length g1
    simpa using this
  refine ⟨hp2, kvs, rfl, by omega, ?_⟩
  have hm : mergeK [] kvs = kvs := by
    have := mergeK_app kvs [] (fun _ _ _ h => nomatch h) (nodupK_keys g1 hh.1)
    simpa using this
  rw [hm]
  have kp : Keep (p :: W) (p :: W) [] H2 (upd H2 p (.dK kvs)) := by
    refine ⟨(fun _ z => nomatch z), fun b o hb e => ?_, fun b vs0 e => ?_, fun b o u0 e => ?_, fun b hb _ => hb⟩
    · rw [upd_ne (fun z => hb (by rw [z]; simp))]; exact e
    · rw [upd_ne (fun z => by rw [z, hp2] at e; cases e)]; exact e
    · rw [upd_ne (fun z => by rw [z, hp2] at e; cases e)]; exact e
  have hsame : Same H (upd H2 p (.dK kvs)) := Same.put (s0.trans s2) hp hp2 dK_code
  exact k _ _ [p] hsame (Own.dicO (F := []) upd_same g1 (g2.keep kp)) (by simp) fun b hb => by rw [List.mem_singleton.mp hb]; exact hp⟩
/-! ### name.append(e), e changes or moves other things -/
def sAppV (i : Nat) (m : EM) : SS := fun env => match env[i]? with
  | some (.lst true xs) => (m (env.set i .hole)).bind fun x => if i < x.2.length ∧ xs.length < line then some (.nx (x.2.set i (.lst true (xs ++ [x.1])))) else none
  | _ => none
theorem sm_appV (ha : Pt X cl a i qNil) (he : Sv X cl e m) {pos2 : Pos} (hs : swapsWith (.Call (.Attribute a "append" apos) [e] [] pos) none pos2.line X.env = pure false := by rfl)
    (hpe : ∀ {ta : TE} {t : TA}, PE X a ta → PA X [e] t → PE X (.Call (.Attribute a "append" apos) [e] [] pos) (tBM X.K "list" rAppend ta t) := by
      intro ta t h1 h2; exact pe_bm PySem.F.plainAttrs_list PySem.F.slot_list_append PySem.F.type_list_append mt_append h1 h2)
    (h1 : starEach [e] X.env = (false, eval e X.env) :: starEach [] X.env := by rfl) : Sm X cl io (.Expr (.Call (.Attribute a "append" apos) [e] [] pos) pos2) (sAppV i m) := ⟨fun R F env fl q σ H E D k => by
  unfold sAppV at q
  split at q
  rotate_left
  · cases q
  rename_i xs hn
  obtain ⟨⟨d, env1⟩, e1, q1⟩ := bind1 q
  split at q1
  rotate_left
  · cases q1
  rename_i hi
  cases q1
  have hg : getAt i [] env = some (.lst true xs) := by
    unfold getAt
    rw [hn]
    rfl
  obtain ⟨v, u, G, F1, g1, g3, ep, ou, sub⟩ := E.moveOut hg rfl
  have hset : setAt i [] .hole env = env.set i .hole := by
    unfold setAt
    rw [hn]
    rfl
  rw [hset] at ep
  have huv : v = u := Eq.symm g3
  subst huv
  cases ou with
  | @lstO qa vs _ Gx hq hvs =>
    have ou' : Own X.K cl ((qa :: Gx) ++ (R ++ F1)) H (.ref qa) (.lst true xs) (qa :: Gx) := .lstO hq hvs
    refine wS.of (ps_expr (hpe pe_w (pa_cons pe_w pa_nil h1)) hs) ?_
    refine ha.run _ env [] rfl σ H E.ev E.vd' _ _ g1 g3 _ fun H1 s1 => ?_
    refine ⟨.inl ⟨rfl, _, SqL.of (s1 _ _ hq)⟩, ?_⟩
    have ep1 := ep.mono s1
    refine he.run ((qa :: Gx) ++ R) F1 (env.set i .hole) env1 d e1 σ H1 ep1.er2 _ fun w H2 F2 G2 ep2 o2 fr2 => ?_
    have qF1 : qa ∉ F1 := (ep1.gr qa List.mem_cons_self).2
    have hq2 : H2 qa = some (.lst vs) := fr2.keep _ _ (s1 _ _ hq) qF1
    refine ⟨qa, vs, w, rfl, rfl, hq2, by rw [hvs.length, ← line_eq]; exact hi.2, ?_⟩
    let H3 := upd H2 qa (.lst (vs ++ [w]))
    let G3 : List Addr := qa :: (Gx ++ (G2 ++ []))
    have mG3 : ∀ b, b ∈ G3 ↔ b = qa ∨ b ∈ Gx ∨ b ∈ G2 := fun b => by
      show b ∈ qa :: (Gx ++ (G2 ++ [])) ↔ _
      simp
    have qGx : qa ∉ Gx := (List.nodup_cons.mp ep.gn).1
    have g2n : ∀ b ∈ G2, b ∉ qa :: Gx ∧ b ∉ R ∧ b ∉ F2 := fun b hb => ⟨fun z => (ep2.gr b hb).1 (List.mem_append_left _ z), fun z => (ep2.gr b hb).1 (List.mem_append_right _ z), (ep2.gr b hb).2⟩
    have f2n : ∀ b ∈ F2, b ∉ qa :: Gx ∧ b ∉ R := fun b hb => ⟨fun z => ep2.ap b hb (List.mem_append_left _ z), fun z => ep2.ap b hb (List.mem_append_right _ z)⟩
    have tupq : ∀ b vs0, H2 b = some (.tup vs0) → b ≠ qa := fun b vs0 e z => by rw [z, hq2] at e; cases e
    have frzq : ∀ b o u0, H2 b = some (.frz o u0) → b ≠ qa := fun b o u0 e z => by rw [z, hq2] at e; cases e
    have upK : ∀ {W W' F' : List Addr}, qa ∉ F' → qa ∈ W → (∀ b, b ∉ W → H2 b ≠ none → b ∉ W') → Keep W W' F' H2 H3 := fun {W W' F'} z1 z2 z3 =>
      ⟨fun b hb o e => by intro _; show upd H2 qa _ b = _; rw [upd_ne (fun z => z1 (by rw [← z]; exact hb))]; exact e, fun b o hb e => by intro _; show upd H2 qa _ b = _; rw [upd_ne (fun z => hb (by rw [z]; exact z2))]; exact e,
        fun b vs0 e => by show upd H2 qa _ b = _; rw [upd_ne (tupq b vs0 e)]; exact e, fun b o u0 e => by show upd H2 qa _ b = _; rw [upd_ne (frzq b o u0 e)]; exact e, z3⟩
    have ep3 : EP X.K cl R G3 F2 σ H3 env1 := by
      refine ⟨ep2.sl.keep (upK (fun z => (f2n qa z).1 List.mem_cons_self) (by simp) fun b hb hn z => ?_), ep2.nd, fun b hb => (f2n b hb).2, fun b hb z => ?_, ?_, fun b hb => ?_, fun b hb z => ?_, fun p hp => tabs_upd hq2 lst_code _ _ (ep2.tabs p hp)⟩
      · simp only [List.mem_append, List.mem_cons, not_or] at hb
        rcases List.mem_append.mp z with z | z
        · rcases (mG3 b).mp z with z | z | z
          · exact hb.2.1.1.1 z
          · exact hb.2.1.1.2 z
          · exact hb.1 z
        · rcases List.mem_append.mp z with z | z
          · exact hb.2.1.2 z
          · exact hb.2.2 z
      · have hne : b ≠ qa := fun y => (ep.gr qa List.mem_cons_self).1 (by rw [← y]; exact hb)
        have z' : upd H2 qa (.lst (vs ++ [w])) b = none := z
        rw [upd_ne hne] at z'
        exact ep2.vd b (List.mem_append_right _ hb) z'
      · show (qa :: (Gx ++ (G2 ++ []))).Nodup
        rw [List.append_nil]
        refine List.nodup_cons.mpr ⟨fun z => ?_, List.nodup_append.mpr ⟨(List.nodup_cons.mp ep.gn).2, ep2.gn, fun x hx y hy z => (g2n y hy).1 (by rw [← z]; exact List.mem_cons_of_mem _ hx)⟩⟩
        rcases List.mem_append.mp z with z | z
        · exact qGx z
        · exact (g2n qa z).1 List.mem_cons_self
      · rcases (mG3 b).mp hb with z | z | z
        · subst z; exact ⟨(ep.gr b List.mem_cons_self).1, fun y => (f2n b y).1 List.mem_cons_self⟩
        · exact ⟨(ep.gr b (List.mem_cons_of_mem _ z)).1, fun y => (f2n b y).1 (List.mem_cons_of_mem _ z)⟩
        · exact ⟨(g2n b z).2.1, (g2n b z).2.2⟩
      · have z' : upd H2 qa (.lst (vs ++ [w])) b = none := z
        by_cases y : b = qa
        · rw [y, upd_same] at z'; cases z'
        · rw [upd_ne y] at z'
          rcases (mG3 b).mp hb with x | x | x
          · exact y x
          · exact ep2.vd b (List.mem_append_left _ (List.mem_cons_of_mem _ x)) z'
          · exact ep2.gt b x z'
    have oK := (ou'.mono s1).keep (Keep.wait (W' := G3 ++ (R ++ F2)) (fun b hb => (ep1.gr b hb).2) fr2 fun b hb => by
      rcases List.mem_append.mp hb with z | z
      · rcases (mG3 b).mp z with z | z | z
        · exact .inl (by rw [z]; simp)
        · exact .inl (List.mem_cons_of_mem _ z)
        · exact .inr (.inr (.inr (.inl z)))
      · rcases List.mem_append.mp z with z | z
        · exact .inr (.inl z)
        · exact .inr (.inr (.inr (.inr z))))
    cases oK with
    | lstO hq' hvs' =>
      rw [hq2] at hq'
      cases hq'
      have a1 : Owns X.K cl (G3 ++ (R ++ F2)) H3 vs xs Gx := hvs'.keep (upK qGx (List.mem_append_left _ ((mG3 qa).mpr (.inl rfl))) fun b hb _ => hb)
      have a2 : Own X.K cl (G3 ++ (R ++ F2)) H3 w d G2 := (o2.weak (W' := G3 ++ (R ++ F2)) fun b hb => by
        simp only [List.mem_append, List.mem_cons]
        rcases List.mem_append.mp hb with z | z
        · rcases (mG3 b).mp z with z | z | z
          · exact .inr (.inl (.inl (.inl z)))
          · exact .inr (.inl (.inl (.inr z)))
          · exact .inl z
        · rcases List.mem_append.mp z with z | z
          · exact .inr (.inl (.inr z))
          · exact .inr (.inr z)).keep (upK (fun z => (g2n qa z).1 List.mem_cons_self) (List.mem_append_left _ ((mG3 qa).mpr (.inl rfl))) fun b hb _ => hb)
      have a3 : Own X.K cl (G3 ++ (R ++ F2)) H3 (.ref qa) (.lst true (xs ++ [d])) G3 := .lstO upd_same (Owns.append a1 (.cons a2 .nil))
      obtain ⟨F4, er4, sub4⟩ := ep3.put hi.1 a3
      rw [set_self g1] at er4
      have qa_F : qa ∈ F := sub qa (by simp)
      have two : ∀ b, b ∈ G2 ++ F2 → b ∈ F ∨ H b = none := fun b hb => (fr2.new b hb).elim (fun z => .inl (sub b (List.mem_append_right _ z))) fun z => .inr (Same.back s1 z)
      refine k σ H3 F4 er4 ⟨fun b o h hb => ?_, fun b vs0 h => ?_, fun b o u0 h => ?_, fun b h => ?_, fun b hb => ?_, fun P n t => tabs_upd hq2 lst_code _ _ (fr2.tabs P n (s1.tabs P n t))⟩ Pin.refl
      · intro _; show upd H2 qa _ b = _
        rw [upd_ne (fun z => hb (by rw [z]; exact qa_F))]
        exact fr2.keep b o (s1 _ _ h) fun z => hb (sub b (List.mem_append_right _ z))
      · show upd H2 qa _ b = _
        have := fr2.tup b vs0 (s1 _ _ h)
        rw [upd_ne (tupq b vs0 this)]; exact this
      · show upd H2 qa _ b = _
        have := fr2.frz b o u0 (s1 _ _ h)
        rw [upd_ne (frzq b o u0 this)]; exact this
      · have h' : upd H2 qa (.lst (vs ++ [w])) b = none := h
        by_cases z : b = qa
        · rw [z, upd_same] at h'; cases h'
        · rw [upd_ne z] at h'
          exact Same.back s1 (fr2.back b h')
      · rcases sub4 b hb with z | z
        · exact two b (List.mem_append_right _ z)
        · rcases (mG3 b).mp z with z | z | z
          · exact .inl (by rw [z]; exact qa_F)
          · exact .inl (sub b (by simp [z]))
          · exact two b (List.mem_append_left _ z)⟩
/-! ### zip of two lists -/
theorem ii_zip {elts : List Expr} {kk : Nat} {tpos p : Pos} (ha : Se X cl a f) (hb : Se X cl b g) (hg : Gl X "zip") (hm : X.mg "zip" = none) (h1 : starEach [a, b] X.env = (false, eval a X.env) :: starEach [b] X.env := by rfl) (h2 : starEach [b] X.env = (false, eval b X.env) :: starEach [] X.env := by rfl)
    (hpl : (backTo pos (starEach [b] X.env)).any (·.1) = false := by rfl) : Ii X cl (.Tuple elts kk tpos) (.Call (.Name "zip" p) [a, b] [] pos) (iZip f g) := ⟨fun W env ds q σ H E V => by
  unfold iZip at q
  obtain ⟨d1, e1, q1⟩ := bind1 q
  obtain ⟨d2, e2, q2⟩ := bind1 q1
  split at q2
  rotate_left
  · cases q2
  rename_i ob1 xs ob2 ys
  split at q2
  rotate_left
  · cases q2
  rename_i hsh
  rw [Bool.and_eq_true] at hsh
  cases q2
  refine ⟨_, pi_zip hg hm (pa_cons pe_w (pa_cons pe_w pa_nil h2) h1) h1 hpl, fun R k => ?_⟩
  refine ha.run W env _ e1 σ H E V _ fun v H1 F1 s1 o1 n1 f1 => ?_
  have V1 : VD (F1 ++ W) H1 := fun a ha => (List.mem_append.mp ha).elim (o1.tracked a) (V.mono s1 a)
  refine hb.run (F1 ++ W) env _ e2 σ H1 ((E.grow fun a ha => (List.mem_append.mp ha).elim (fun z => .inr (f1 a z)) .inl).mono s1) V1 _ fun u H2 F2 s2 o2 n2 f2 => ?_
  have nW1 := own_notW V o1 f1
  have nW2 := own_notW V1 o2 f2
  obtain ⟨p1, vs, G1, rfl, hp1, hv1, _⟩ := own_lst o1
  obtain ⟨p2, us, G2, rfl, hp2, hv2, _⟩ := own_lst o2
  have c1 : Owns X.K cl W H2 vs xs [] := ((hv1.shs hsh.1).weak fun a ha => List.mem_append_right _ ha).mono s2
  have c2 : Owns X.K cl W H2 us ys [] := (hv2.shs hsh.2).weak fun a ha => List.mem_append_right _ (List.mem_append_right _ ha)
  have w1 : p1 ∉ W := nW1 p1 vs rfl hp1
  have w2 : p2 ∉ W := fun z => nW2 p2 us rfl hp2 (List.mem_append_right _ z)
  refine ⟨p1, p2, vs, us, rfl, SqL.of (s2 _ _ hp1), SqL.of hp2, ?_⟩
  refine k (Itz X.K p1 p2) H2 (fun H => SqL X.K H p1 vs ∧ SqL X.K H p2 us) _ (s1.trans s2) (walk_zip (by rw [List.length_zipWith, c1.length, c2.length])) (fun W2 H3 kp => ⟨SqL.of (kp.out _ _ w1 (s2 _ _ hp1)), SqL.of (kp.out _ _ w2 hp2)⟩) fun i x H3 H4 W2 d kp y hd => ?_
  obtain ⟨T, x1, y1, rfl, hT, rfl, hx1, hy1⟩ := y
  rw [List.getElem?_zipWith] at hd
  cases hi : xs[i]? with
  | none => rw [hi] at hd; simp at hd
  | some di =>
    cases hj : ys[i]? with
    | none => rw [hi, hj] at hd; simp at hd
    | some dj =>
      rw [hi, hj] at hd
      have hd' : some (Tg.D.tup [di, dj]) = some d := hd
      cases hd'
      obtain ⟨wa, Ga, g1, g2, g3⟩ := c1.get hi
      obtain ⟨wb, Gb, k1, k2, k3⟩ := c2.get hj
      have ea : Ga = [] := List.eq_nil_iff_forall_not_mem.mpr fun a ha => nomatch g3 a ha
      have eb : Gb = [] := List.eq_nil_iff_forall_not_mem.mpr fun a ha => nomatch k3 a ha
      subst ea eb
      have hx1' : vs[i]? = some x1 := hx1
      have hy1' : us[i]? = some y1 := hy1
      rw [hx1'] at g1
      rw [hy1'] at k1
      cases g1
      cases k1
      refine ⟨same_new hT, .tup upd_same (Owns.cons (F := []) (G := []) ((g2.keep kp).mono (same_new hT)) (Owns.cons (F := []) (G := []) ((k2.keep kp).mono (same_new hT)) .nil))⟩⟩
end
end Tg

namespace Tg
open PySem PySem.Spec L2 RT RZ
/-! ### a, b = x, y -/
def sPar (i j : Nat) (fs : EA) : SS := fun env => (fs env).bind fun ds => match ds with
  | [x, y] => if x.sh && y.sh && decide (i < env.length) && decide (j < env.length) then some (.nx ((env.set i x).set j y)) else none
  | _ => none
section
variable {X : Cx} {cl : Cl} {io : List Nat} {a b c e : Expr} {pos apos : Pos} {fs : EA}
theorem sm_par (i j : Nat) {x y : Str} {px py pt : Pos} {kt k2 pt2} (nd : X.N.Nodup) (ha : Sa X cl [a, b] fs) (hw : swappedStores [.Tuple [.Name x px, .Name y py] kt pt] (.Tuple [a, b] k2 pt2) X.env = pure (some [x, y]) := by rfl)
    (hc : X.calm = true := by rfl) (hi : X.N[i]? = some x := by rfl) (hj : X.N[j]? = some y := by rfl) (hij : i ≠ j := by decide) (hx : X.env.scope.names.lookup x = some .local := by rfl) (hy : X.env.scope.names.lookup y = some .local := by rfl)
    (hs : swapsWithSole [.Tuple [.Name x px, .Name y py] kt pt] (.Tuple [a, b] k2 pt2) pos.line X.env = pure false := by rfl) (h1 : i ∉ io := by decide) (h2 : j ∉ io := by decide) : Sm X cl io (.Assign [.Tuple [.Name x px, .Name y py] kt pt] (.Tuple [a, b] k2 pt2) pos) (sPar i j fs) := ⟨fun R F env fl q σ H E D k => by
  unfold sPar at q
  obtain ⟨ds, e1, q1⟩ := bind1 q
  split at q1
  rotate_left
  · cases q1
  rename_i dx dy
  split at q1
  rotate_left
  · cases q1
  rename_i hh
  simp only [Bool.and_eq_true, decide_eq_true_eq] at hh
  obtain ⟨⟨⟨sx, sy⟩, li⟩, lj⟩ := hh
  cases q1
  refine wS.of (ps_par hc nd hi hj hij hx hy pa_w hw hs) ?_
  refine ha.run _ env _ e1 σ H E.ev E.vd' _ fun vs H1 G s1 o1 n1 f1 => ?_
  have hG : G = [] := o1.sh (by show (dx.sh && (dy.sh && true)) = true; rw [sx, sy]; rfl)
  subst hG
  obtain ⟨v, r, rfl, ov, o2⟩ := owns_cons0 o1
  obtain ⟨w, r2, rfl, ow, o3⟩ := owns_cons0 o2
  cases o3
  refine ⟨v, w, rfl, ?_⟩
  have ep1 := E.ep (G := []) s1 List.nodup_nil (fun _ z => nomatch z) (fun _ z => nomatch z)
  obtain ⟨F1, er1, sub1⟩ := ep1.put li ov
  have sub1' : ∀ z ∈ F1, z ∈ F := fun z hz => (sub1 z hz).elim id fun y => nomatch y
  have ep2 := er1.ep (G := []) (Same.refl H1) List.nodup_nil (fun _ z => nomatch z) (fun _ z => nomatch z)
  obtain ⟨F2, er2, sub2⟩ := ep2.put (by rw [List.length_set]; exact lj) (ow.weak fun z hz => by
    rcases List.mem_append.mp hz with z' | z'
    · exact nomatch z'
    · rcases List.mem_append.mp z' with z' | z'
      · exact List.mem_append_right _ (List.mem_append_left _ z')
      · exact List.mem_append_right _ (List.mem_append_right _ (sub1' z z')))
  have sub2' : ∀ z ∈ F2, z ∈ F := fun z hz => (sub2 z hz).elim (sub1' z) fun y => nomatch y
  exact k _ _ _ er2 (Fr.same s1 fun z hz => .inl (sub2' z hz)) ((Pin.set h1).trans (Pin.set h2))⟩
end
/-! ### what is told looked at, frozen -/
def eFz (f : EE) : EE := fun env => (f env).map D.fz
theorem pk_fz {X : Cx} {cl : Cl} {e : Expr} {f : EE} (h : Se X cl e f) : Pk X cl e (eFz f) := ⟨fun W env d q σ H E V Q k => by
  unfold eFz at q
  obtain ⟨d0, e1, rfl⟩ := Option.map_eq_some_iff.mp q
  exact h.run W env d0 e1 σ H E V Q fun v H' F s o nd fr => k v H' [] s (o.fz W (fun a _ hn hw => hn (List.mem_append_right _ hw)) (fun a ha hw => V a hw (fr a ha)))⟩
end Tg

namespace Tg
open PySem PySem.Spec L2 RT RZ PyProof.Rows
/-! ### zip of a tuple and a list -/
theorem sepM {z TI TO i1 i2 a b : Addr} (D : ZipApart z TI TO i1 i2 a b) : ZipSep2 z TI TO i1 i2 [i1, a] [i2, b] where
  TIz := D.TIz
  TOz := D.TOz
  TITO := D.TITO
  TIi1 := D.TIi1
  mem1 := List.mem_cons_self
  zf1 := by
    intro h
    rcases List.mem_cons.mp h with e | h
    · exact D.i1z e.symm
    · exact D.l1z (List.mem_singleton.mp h).symm
  Tf1 := by
    intro h
    rcases List.mem_cons.mp h with e | h
    · exact D.TOi1 e
    · exact D.l1TO (List.mem_singleton.mp h).symm
  TIi2 := D.TIi2
  mem2 := List.mem_cons_self
  zf2 := by
    intro h
    rcases List.mem_cons.mp h with e | h
    · exact D.i2z e.symm
    · exact D.l2z (List.mem_singleton.mp h).symm
  Tf2 := by
    intro h
    rcases List.mem_cons.mp h with e | h
    · exact D.TOi2 e
    · exact D.l2TO (List.mem_singleton.mp h).symm
  sep1_2 := by
    intro h
    rcases List.mem_cons.mp h with e | h
    · exact D.i12 e
    · exact D.l2i1 (List.mem_singleton.mp h).symm
  sep2_1 := by
    intro h
    rcases List.mem_cons.mp h with e | h
    · exact D.i12 e.symm
    · exact D.l1i2 (List.mem_singleton.mp h).symm
/-- a tuple and a list, item by item, each pair anew -/
def ItM (K : PySem.W.Frag) (ta lb : Addr) : L2.It where
  go := fun n H => ∃ (xs ys : List V) (x y : V), (SqT K H ta xs ∧ xs[n]? = some x) ∧ SqL K H lb ys ∧ ys[n]? = some y
  yld := fun n H v H2 => ∃ (p : Addr) (x y : V), H p = none ∧ v = .ref p ∧ H2 = upd H p (.tup [x, y]) ∧ (∀ l, SqT K H ta l → l[n]? = some x) ∧ ∀ l, SqL K H lb l → l[n]? = some y
  stop := fun n H => ∃ xs ys : List V, SqT K H ta xs ∧ SqL K H lb ys ∧ n = min xs.length ys.length
def MSt (z TI TO i1 i2 ta lb : Addr) (n : Nat) (h : Heap) : Prop :=
  (h.IsTupleIter i1 ta n ∧ h.IsListIter i2 lb n) ∧ IsZip h z TI TO .none ∧ IsTupOf2 h TI (.ref i1) (.ref i2) ∧ ∃ u v, IsTupOf2 h TO u v
theorem turnM {P : Program} {w : World} {K : PySem.W.Frag} {es : List Expr} {m : Nat} {q : Pos} {ta lb z TI TO i1 i2 : Addr} (D : ZipApart z TI TO i1 i2 ta lb) :
    L2.Turn P w K (.Tuple es m q) (ItM K ta lb) [z, TI, TO, i1, i2] z (MSt z TI TO i1 i2 ta lb) where
  mem := List.mem_cons_self
  obj := by
    rintro n h ⟨⟨⟨o1, e1, _, d1⟩, o2, e2, _, d2⟩, hz, hI, u, v, hO⟩ c hc
    have cases5 : c = z ∨ c = TI ∨ c = TO ∨ c = i1 ∨ c = i2 := by simpa using hc
    rcases cases5 with e | e | e | e | e <;> rw [e]
    · exact ⟨_, hz, fun _ hd => by cases hd⟩
    · exact ⟨_, hI, fun _ hd => by cases hd⟩
    · exact ⟨_, hO, fun _ hd => by cases hd⟩
    · exact ⟨_, e1, fun _ hd => by rw [d1] at hd; cases hd⟩
    · exact ⟨_, e2, fun _ hd => by rw [d2] at hd; cases hd⟩
  keep := by
    rintro n h h2 ⟨⟨t1, t2⟩, hz, hI, u, v, hO⟩ kp
    refine ⟨⟨t1.at fun o e => kp _ ?_ o e, t2.at fun o e => kp _ ?_ o e⟩, kp _ ?_ _ hz, kp _ ?_ _ hI, u, v, kp _ ?_ _ hO⟩ <;> simp
  item := by
    intro X hP hw hK hc n pins s σ H E I hf st hg
    subst hP hw hK
    obtain ⟨⟨t1, t2⟩, hz, hI, u0, v0, hO⟩ := st
    obtain ⟨xs, ys, x, y, ⟨qx, hx⟩, qy, hy⟩ := hg
    obtain ⟨va, ra, pa, _⟩ := I.tuple qx
    obtain ⟨vb, rb, pb, _⟩ := I.list qy
    obtain ⟨ux, gx, wx⟩ := ra.get hx
    obtain ⟨uy, gy, wy⟩ := rb.get hy
    have hn : X.A.handled = none := I.ok.hd hc
    have n1 : n < va.toArray.size := by
      have := (List.getElem?_eq_some_iff.mp gx).1
      simpa using this
    have n2 : n < vb.toArray.size := by
      have := (List.getElem?_eq_some_iff.mp gy).1
      simpa using this
    have zlt := Heap.lt_size hz
    refine wpAny_pyNext_zipD2_item (i := n) (sepM D) (Draws.tuple (A := X.A.in1) hn i1 ta D.l1i1 va.toArray) (Draws.list (A := X.A.in1) hn i2 lb D.l2i2 vb.toArray) hz hI hO ⟨t1, pa⟩ ⟨t2, pb.isList⟩ n1 n2 ?_
    intro w1 w2 h2 tk p1 p2 hz2 hO2 s1 s2 hT hsz hk
    have ew1 : w1 = ux := by
      have e : va[n]? = some w1 := by simpa using p1
      rw [gx] at e
      exact (Option.some.inj e).symm
    have ew2 : w2 = uy := by
      have e : vb[n]? = some w2 := by simpa using p2
      rw [gy] at e
      exact (Option.some.inj e).symm
    subst ew1 ew2
    refine ⟨_, rfl, wpAny_letOwnedTupleGo_zip (s := { s with heap := h2, toks := tk }) hz2 ?_⟩
    intro h3 hz3 sb
    have sb2 : ∀ c, c ≠ z → h3.get? c = h2.get? c := sb.2
    have hT3 : h3.get? s.heap.objs.size = some { cls := .type "tuple", data := .seq #[w1, w2] } := by
      rw [sb2 _ (Nat.ne_of_gt zlt)]; exact hT
    have okT : ObjOk X.prog X.w (upd H s.heap.objs.size (.tup [x, y])) h3 s.heap.objs.size (.tup [x, y]) :=
      ⟨show 2 ≤ sizeLine by decide, [w1, w2], .cons wx (.cons wy .nil), ⟨_, hT3, rfl, _, rfl⟩⟩
    have hfr := I.hok.fresh (Nat.le_refl s.heap.objs.size)
    refine ⟨.ref s.heap.objs.size, upd H s.heap.objs.size (.tup [x, y]), ?_, rfl, ?_, ?_, ?_⟩
    · refine I.turnedNew (t' := tk) (ch := [z, TI, TO, i1, i2]) ?_ hf (Nat.le_refl _) okT
      intro c o hb hco
      simp only [List.mem_cons, List.not_mem_nil, or_false, not_or] at hb
      rw [sb2 c hb.1]
      exact hk c o hb.1 hb.2.2.1 hb.2.2.2.1 hb.2.2.2.2 hco
    · exact ⟨_, x, y, hfr, rfl, rfl, fun l hl => (I.tuple_inj hl qx) ▸ hx, fun l hl => (I.list_inj hl qy) ▸ hy⟩
    · refine ⟨⟨s1.1.at fun o e => (sb2 _ D.i1z).trans e, s2.1.at fun o e => (sb2 _ D.i2z).trans e⟩, hz3, ?_, w1, w2, (sb2 _ D.TOz).trans hO2⟩
      exact (sb2 _ D.TIz).trans (hk _ _ D.TIz D.TITO D.TIi1 D.TIi2 hI)
    · intro c hcm
      have clt : c < s.heap.objs.size := by
        have cases5 : c = z ∨ c = TI ∨ c = TO ∨ c = i1 ∨ c = i2 := by simpa using hcm
        rcases cases5 with e | e | e | e | e <;> rw [e]
        · exact zlt
        · exact Heap.lt_size hI
        · exact Heap.lt_size hO
        · obtain ⟨_, e1, _⟩ := t1; exact Heap.lt_size e1
        · obtain ⟨_, e2, _⟩ := t2; exact Heap.lt_size e2
      rw [upd_ne (Nat.ne_of_lt clt)]
      exact (hf c hcm).1
  done := by
    intro X hP hw hK hc n pins s σ H E I hf st hg
    subst hP hw hK
    obtain ⟨⟨t1, t2⟩, hz, hI, u0, v0, hO⟩ := st
    obtain ⟨xs, ys, qx, qy, hn2⟩ := hg
    obtain ⟨va, ra, pa, _⟩ := I.tuple qx
    obtain ⟨vb, rb, pb, _⟩ := I.list qy
    have l1 : va.toArray.size = xs.length := by rw [List.size_toArray]; exact ra.length.symm
    have l2 : vb.toArray.size = ys.length := by rw [List.size_toArray]; exact rb.length.symm
    have hn : X.A.handled = none := I.ok.hd hc
    refine wpAny_pyNext_zipD2_end (i := n) (sepM D) (Draws.tuple (A := X.A.in1) hn i1 ta D.l1i1 va.toArray) (Draws.list (A := X.A.in1) hn i2 lb D.l2i2 vb.toArray) hz hI hO ⟨t1, pa⟩ ⟨t2, pb.isList⟩ (by omega) (by omega) (by omega) ?_
    intro h2 tk hk
    refine ⟨rfl, I.turnedL (t' := tk) (ch := [z, TI, TO, i1, i2]) ?_ hf⟩
    intro c o hb hco
    simp only [List.mem_cons, List.not_mem_nil, or_false, not_or] at hb
    exact hk c o hb.1 hb.2.2.1 hb.2.2.2.1 hb.2.2.2.2 hco
  self := fun _ _ _ _ _ st q => wpAny_pyIter_zip st.2.1 q
def iZipMA (K : PySem.W.Frag) (ta : TA) : L2.TI := fun σ H R => ta σ H fun vs H1 => ∃ (a b : Addr) (xs ys : List V), vs = [.ref a, .ref b] ∧ SqT K H1 a xs ∧ SqL K H1 b ys ∧ R (ItM K a b) H1
theorem pi_zipM {X : Cx} {e e2 : Expr} {ta : TA} {p pos tpos : Pos} {es : List Expr} {m : Nat} (hg : Gl X "zip") (hm : X.mg "zip" = none) (ha : PA X [e, e2] ta)
    (hs : starEach [e, e2] X.env = (false, eval e X.env) :: starEach [e2] X.env := by rfl) (hpl : (backTo pos (starEach [e2] X.env)).any (·.1) = false := by rfl) :
    PI X (.Tuple es m tpos) (.Call (.Name "zip" p) [e, e2] [] pos) (iZipMA X.K ta) := by
  constructor
  intro pins s σ H R I h
  refine Call_ (ld_blt I hg hm boot_zip (callWith_type1 (thn (ha.run pos pins s σ H _ I h) ?_) hs hpl))
  rintro us s1 ⟨vs, H1, I1, r1, a, b, xs, ys, rfl, qx, qy, hR⟩
  cases r1 with
  | cons ra rr =>
    cases rr with
    | cons rb rr =>
      cases rr
      cases ra
      cases rb
      obtain ⟨va, _, pa, _⟩ := I1.tuple qx
      obtain ⟨vb, _, pb, _⟩ := I1.list qy
      have la : a < s1.heap.objs.size := IsTup.lt pa
      refine zip_begins2 (begins_tuple a va.toArray) (begins_list b vb.toArray) pa pb.isList ?_
      intro h2 hz hI hO g1 g2 hsz hk
      refine wpAny_pyIter_zip hz ?_
      refine ⟨s1.heap.objs.size + 4, [s1.heap.objs.size + 4, s1.heap.objs.size + 2, s1.heap.objs.size + 3, s1.heap.objs.size, s1.heap.objs.size + 1], MSt (s1.heap.objs.size + 4) (s1.heap.objs.size + 2) (s1.heap.objs.size + 3) s1.heap.objs.size (s1.heap.objs.size + 1) a b, ItM X.K a b, H1, rfl, I1.kept (t' := s1.toks) hk, turnM (PySem.W.ktu_apart s1.heap.objs.size a b la pb.lt), ⟨⟨⟨_, g1, rfl, rfl⟩, _, g2, rfl, rfl⟩, hz, hI, _, _, hO⟩, ?_, hR⟩
      intro c hc
      have hge : s1.heap.objs.size ≤ c := by
        have cases5 : c = s1.heap.objs.size + 4 ∨ c = s1.heap.objs.size + 2 ∨ c = s1.heap.objs.size + 3 ∨ c = s1.heap.objs.size ∨ c = s1.heap.objs.size + 1 := by simpa using hc
        rcases cases5 with e | e | e | e | e <;> rw [e]
        · exact Nat.le_add_right _ _
        · exact Nat.le_add_right _ _
        · exact Nat.le_add_right _ _
        · exact Nat.le_refl _
        · exact Nat.le_add_right _ _
      exact I1.fpOk hge (I1.hok.fresh hge)
/-! ### .. as the layer tells it -/
theorem walkM {K : PySem.W.Frag} {a b : Addr} {xs ys : List V} {n : Nat} (hn : n = min xs.length ys.length) : Walk (ItM K a b) n (fun H => SqT K H a xs ∧ SqL K H b ys) (YPair (fun i => xs[i]?) (fun i => ys[i]?)) := by
  subst hn
  refine ⟨fun i _ hi q => ?_, fun _ q => ⟨xs, ys, q.1, q.2, rfl⟩, fun i H v H2 _ q y => ?_⟩
  · have h1 : i < xs.length := by omega
    have h2 : i < ys.length := by omega
    exact ⟨xs, ys, xs[i], ys[i], ⟨q.1, List.getElem?_eq_getElem h1⟩, q.2, List.getElem?_eq_getElem h2⟩
  · obtain ⟨p, x, z, h1, h2, h3, h4, h5⟩ := y
    exact ⟨p, x, z, h2, h1, h3, h4 xs q.1, h5 ys q.2⟩
section
variable {X : Cx} {cl : Cl} {f g : EE} {a b : Expr} {pos : Pos}
def iZipTL (a b : EE) : It := fun env => (a env).bind fun d => (b env).bind fun e => match d, e with
  | .tup xs, .lst _ ys => if D.shs xs && D.shs ys then some (List.zipWith (fun x y => .tup [x, y]) xs ys) else none
  | _, _ => none
theorem ii_zipTL {elts : List Expr} {kk : Nat} {tpos p : Pos} (ha : Se X cl a f) (hb : Se X cl b g) (hg : Gl X "zip") (hm : X.mg "zip" = none) (h1 : starEach [a, b] X.env = (false, eval a X.env) :: starEach [b] X.env := by rfl) (h2 : starEach [b] X.env = (false, eval b X.env) :: starEach [] X.env := by rfl)
    (hpl : (backTo pos (starEach [b] X.env)).any (·.1) = false := by rfl) : Ii X cl (.Tuple elts kk tpos) (.Call (.Name "zip" p) [a, b] [] pos) (iZipTL f g) := by
  constructor
  intro W env ds q σ H E V
  unfold iZipTL at q
  obtain ⟨d1, e1, q1⟩ := bind1 q
  obtain ⟨d2, e2, q2⟩ := bind1 q1
  split at q2
  rotate_left
  · cases q2
  rename_i xs ob2 ys
  split at q2
  rotate_left
  · cases q2
  rename_i hsh
  rw [Bool.and_eq_true] at hsh
  cases q2
  refine ⟨_, pi_zipM hg hm (pa_cons pe_w (pa_cons pe_w pa_nil h2) h1) h1 hpl, fun R k => ?_⟩
  refine ha.run W env _ e1 σ H E V _ fun v H1 F1 s1 o1 n1 f1 => ?_
  have V1 : VD (F1 ++ W) H1 := fun a ha => (List.mem_append.mp ha).elim (o1.tracked a) (V.mono s1 a)
  refine hb.run (F1 ++ W) env _ e2 σ H1 ((E.grow fun a ha => (List.mem_append.mp ha).elim (fun z => .inr (f1 a z)) .inl).mono s1) V1 _ fun u H2 F2 s2 o2 n2 f2 => ?_
  have nW2 := own_notW V1 o2 f2
  obtain ⟨p1, vs, rfl, hp1, hv1⟩ := own_tup o1
  obtain ⟨p2, us, G2, rfl, hp2, hv2, _⟩ := own_lst o2
  have c1 : Owns X.K cl W H2 vs xs [] := ((hv1.shs hsh.1).weak fun a ha => List.mem_append_right _ ha).mono s2
  have c2 : Owns X.K cl W H2 us ys [] := (hv2.shs hsh.2).weak fun a ha => List.mem_append_right _ (List.mem_append_right _ ha)
  have w2 : p2 ∉ W := fun z => nW2 p2 us rfl hp2 (List.mem_append_right _ z)
  have sq1 : SqT X.K H2 p1 vs := sqtSame s2 hp1
  refine ⟨p1, p2, vs, us, rfl, sq1, SqL.of hp2, ?_⟩
  refine k (ItM X.K p1 p2) H2 (fun H => SqT X.K H p1 vs ∧ SqL X.K H p2 us) _ (s1.trans s2) (walkM (by rw [List.length_zipWith, c1.length, c2.length])) (fun W2 H3 kp => ⟨kp.sqt sq1, SqL.of (kp.out _ _ w2 hp2)⟩) fun i x H3 H4 W2 d kp y hd => ?_
  obtain ⟨T, x1, y1, rfl, hT, rfl, hx1, hy1⟩ := y
  have gx : xs[i]? ≠ none ∧ ys[i]? ≠ none := by
    rw [List.getElem?_zipWith] at hd
    constructor
    · intro e; rw [e] at hd; cases hd
    · intro e
      rw [e] at hd
      cases h : xs[i]? with
      | none => rw [h] at hd; exact absurd hd (by simp)
      | some z => rw [h] at hd; exact absurd hd (by simp)
  obtain ⟨di, hi⟩ := Option.ne_none_iff_exists'.mp gx.1
  obtain ⟨dj, hj⟩ := Option.ne_none_iff_exists'.mp gx.2
  have hd2 : d = .tup [di, dj] := by
    rw [List.getElem?_zipWith, hi, hj] at hd
    exact (Option.some.inj hd).symm
  subst hd2
  obtain ⟨wa, Ga, g1, g2, g3⟩ := c1.get hi
  obtain ⟨wb, Gb, k1, k2, k3⟩ := c2.get hj
  have ea : Ga = [] := List.eq_nil_iff_forall_not_mem.mpr fun a ha => nomatch g3 a ha
  have eb : Gb = [] := List.eq_nil_iff_forall_not_mem.mpr fun a ha => nomatch k3 a ha
  subst ea eb
  have ex : wa = x1 := Option.some.inj (g1.symm.trans hx1)
  have ey : wb = y1 := Option.some.inj (k1.symm.trans hy1)
  subst ex ey
  exact ⟨same_new hT, .tup upd_same (Owns.cons (F := []) (G := []) ((g2.keep kp).mono (same_new hT)) (Owns.cons (F := []) (G := []) ((k2.keep kp).mono (same_new hT)) .nil))⟩
/-- zip of two lists, or of a tuple and a list -/
def iZipU (a b : EE) : It := fun env => match iZip a b env with
  | some r => some r
  | none => iZipTL a b env
theorem ii_zipU {elts : List Expr} {kk : Nat} {tpos p : Pos} (ha : Se X cl a f) (hb : Se X cl b g) (hg : Gl X "zip") (hm : X.mg "zip" = none) (h1 : starEach [a, b] X.env = (false, eval a X.env) :: starEach [b] X.env := by rfl) (h2 : starEach [b] X.env = (false, eval b X.env) :: starEach [] X.env := by rfl)
    (hpl : (backTo pos (starEach [b] X.env)).any (·.1) = false := by rfl) : Ii X cl (.Tuple elts kk tpos) (.Call (.Name "zip" p) [a, b] [] pos) (iZipU f g) := by
  constructor
  intro W env ds q σ H E V
  unfold iZipU at q
  split at q
  · rename_i r e
    cases q
    exact (ii_zip ha hb hg hm h1 h2 hpl).run W env _ e σ H E V
  · exact (ii_zipTL ha hb hg hm h1 h2 hpl).run W env _ q σ H E V
end
end Tg

namespace Tg
open PySem PySem.Spec L2 RT RZ PyProof.Rows
/-! ### list(reversed(x)), x a tuple -/
theorem rt_nolen : typeLookup (.type "reversed") "__len__" = pure none := by rw [typeLookup_type, builtinLookup_eq_fast]; kernel_rfl
theorem rt_slot : Slot "reversed" "__length_hint__" "reversed.__length_hint__" :=
  .of (owner := "reversed") (n := "__length_hint__") (by rw [typeLookup_type, builtinLookup_eq_fast]; kernel_rfl) (by decide +kernel) (by decide +kernel) (by decide +kernel)
    (by first | exact .inl (by decide +kernel) | exact .inr (by decide +kernel)) (by rw [isSubtype_type]; kernel_rfl)
theorem rt_entry : entryFor table "reversed.__length_hint__" = some Builtin.«reversed.__length_hint__» := entryFor_of_tree (by kernel_rfl)
theorem rt_args (a : Value) : argsOk "reversed.__length_hint__" ⟨[a], []⟩ := by
  unfold argsOk
  rw [signature?_of (id := "reversed.__length_hint__") (n := ['_', '_', 't', 'n', 'i', 'h', '_', 'h', 't', 'g', 'n', 'e', 'l', '_', '_']) (o := ['d', 'e', 's', 'r', 'e', 'v', 'e', 'r']) (by kernel_rfl) owner_rt]
  kernel_rfl
section
variable {prog : Program} {w : World} {A : Around} {E : Value → Shared → Prop} {s : Shared}
theorem rt_hint {it t : Addr} {items : Array Value} {Q : Bool → Shared → Prop} (st : IsRt s.heap it t ((items.size : Int) - 1)) (ht : IsTup s.heap t items) (hsz : items.size ≤ sizeLine)
    (h : ∀ b tk, Q b { s with toks := tk }) : wpAny (model prog w) A (Builtin.List.listLengthHint (.ref it)) Q E s := by
  have hT := st.typeIs
  obtain ⟨o, ho, hc, hd⟩ := id st
  rw [sizeLine_eq] at hsz
  unfold Builtin.List.listLengthHint
  refine wpAny_bind (wpAny_specialOf hT rt_nolen ?_)
  show wpAny _ A (specialOf (Value.ref it) (Str.ofString "__length_hint__") >>= _) _ _ _
  refine wpAny_bind (wpAny_specialOf hT rt_slot.lookup ?_)
  generalize hid : ("reversed.__length_hint__" : String) = id0
  wp_delta
  rw [show splitId id0 = some ("reversed", "__length_hint__") from by subst hid; decide +kernel]
  subst hid
  refine wpAny_bind (wpAny_isInstance (b := true) hT (by rw [isSubtype_type]; kernel_rfl) ?_)
  rw [if_neg (by decide)]
  dsimp only
  rw [if_neg (by decide +kernel)]
  refine wpAny_bind (wpAny_rule ?_)
  rw [rt_slot.bind]
  refine wpAny_bind (wpAny_pure ?_)
  dsimp only
  refine wpAny_bind (wpAny_attempt ?_)
  refine wpAny_call_entry rt_slot hT rt_entry ?_ (rt_args _)
  unfold Builtin.«reversed.__length_hint__»
  refine wpAny_bind (wpAny_of_eq (a := Value.ref it) rfl ?_)
  refine wpAny_bind (wpAny_field ho hd (x := .ref t) rfl ?_)
  rw [if_neg (show ¬ ((Value.ref t == Value.none) = true) from Bool.false_ne_true)]
  dsimp only
  refine wpAny_bind (len_tuple ht (by omega) ?_)
  refine wpAny_bind (wpAny_of_eq (a := some (items.size : Int)) rfl ?_)
  dsimp only
  refine wpAny_bind (wpAny_field (s := { s with toks := s.toks + 1 + 1 }) ho hd (x := rawInt ((items.size : Int) - 1)) rfl ?_)
  dsimp only [rawInt]
  rw [if_neg (by omega)]
  unfold retInt
  refine wpAny_bind (wpAny_mkInt ?_)
  refine wpAny_pure ⟨_, rfl, ?_⟩
  dsimp only
  refine wpAny_bind (wpAny_of_eq (a := some ((items.size : Int) - 1 + 1)) rfl ?_)
  dsimp only
  have e0 : (items.size : Int) - 1 + 1 = (items.size : Int) := by omega
  rw [e0]
  have f1 : Builtin.List.listFitsIndex (items.size : Int) = true := by
    unfold Builtin.List.listFitsIndex
    rw [Bool.and_eq_true]
    exact ⟨decide_eq_true (by omega), decide_eq_true (by omega)⟩
  have f2 : ¬ Builtin.List.listTooLong ((items.size : Int)).toNat = true := by
    unfold Builtin.List.listTooLong
    rw [decide_eq_true_iff, sizeLine_eq]
    omega
  rw [f1, if_neg (by decide), if_neg (by omega), if_neg f2]
  exact wpAny_pure (h _ _)
/-- the items of a tuple from its end -/
theorem walkRt (hh : A.handled = none) (it t : Addr) (hne : t ≠ it) (items : Array Value) (hsz : items.size ≤ sizeLine) :
    Walks prog w A it [it, t] [it] items.size (fun i v => items[items.size - 1 - i]? = some v) (fun i h => (IsRt h it t ((items.size : Int) - 1 - (i : Int)) ∧ IsTup h t items) ∧ i ≤ items.size) where
  sub := fun b hb => by rw [List.mem_singleton.mp hb]; exact List.mem_cons_self
  frame := fun n h h2 st kp => ⟨⟨st.1.1.at fun o e => kp it List.mem_cons_self o e, by
    obtain ⟨o, e, r⟩ := st.1.2
    exact ⟨o, kp t (by simp) o e, r⟩⟩, st.2⟩
  item := fun n s Q E hn st k => by
    obtain ⟨⟨ri, ti⟩, hle⟩ := st
    have lt : items.size - 1 - n < items.size := by omega
    have ec : (items.size : Int) - 1 - (n : Int) = ((items.size - 1 - n : Nat) : Int) := by omega
    rw [ec] at ri
    refine next_rt_item ri ti (Array.getElem?_eq_getElem lt) hsz ?_
    intro h2 ri2 sb
    have ec2 : ((items.size - 1 - n : Nat) : Int) - 1 = (items.size : Int) - 1 - ((n + 1 : Nat) : Int) := by omega
    rw [ec2] at ri2
    exact k _ h2 _ (Array.getElem?_eq_getElem lt) ⟨⟨ri2, ti.extBut sb.extBut hne⟩, hn⟩ fun b o hb e => sb.extBut b o (fun z => hb (by rw [z]; exact List.mem_cons_self)) e
  done := fun s Q E st k => by
    have ri := st.1.1
    have ec : (items.size : Int) - 1 - (items.size : Int) = -1 := by omega
    rw [ec] at ri
    exact next_rt_end hh ri fun h2 eb => k h2 s.toks fun b o hb e => eb b o (fun z => hb (by rw [z]; exact List.mem_cons_self)) e
  self := fun n s Q E st q => iter_rt st.1.1 q
/-- a new list that takes in what walks, whatever its length hint tells -/
theorem extRoom {R : Result → Shared → Prop} {it S : Addr} {T : String} {fp wr : List Addr} {n : Nat} {P : Nat → Value → Prop} {St : Nat → Heap → Prop} (W : Walks prog w A.in1 it fp wr n P St) (res : Value)
    (hT : ∀ h i, St i h → ∃ o, h.get? it = some o ∧ o.cls = .type T) (ht : ((Value.type T == Value.type "list") = false ∧ (Value.type T == Value.type "tuple") = false) ∧ ["set", "frozenset", "dict", "dict_keys", "dict_values", "dict_items"].any (Value.type T == .type ·) = false)
    (hint : ∀ (s : Shared) (Q : Bool → Shared → Prop) (E : Value → Shared → Prop), St 0 s.heap → (∀ b tk, Q b { s with toks := tk }) → wpAny (model prog w) A.in1 (Builtin.List.listLengthHint (.ref it)) Q E s)
    (hn : n ≤ sizeLine) (hSf : S ∉ fp) (hI : it ∈ fp) (hst : St 0 s.heap) (c₀ : Nat) (hS : s.heap.get? S = some { cls := .type "list", data := .seq #[] c₀ })
    (hR : ∀ h' tk acc c, (∀ b o, b ∉ S :: wr → s.heap.get? b = some o → h'.get? b = some o) → h'.get? S = some { cls := .type "list", dict := none, data := .seq acc c, slots := #[] } → ItemsOf P acc n → R (.ok (.ret res)) { s with heap := h', toks := tk }) :
    wpAny (model prog w) A.in1 (Builtin.List.listExtendWith (.ref S) (.ref it) res)
      (fun fin s' => match fin with | .done f => R (.ok f) s' | .again c' => c'.quiet = true ∧ codeAny (model prog w) A c' R s') (fun e s' => R (.error e) s') s := by
  have hSI : S ≠ it := fun e => hSf (e ▸ hI)
  have hTy : s.TypeIs (.ref it) T := hT s.heap 0 hst
  unfold Builtin.List.listExtendWith
  refine wpAny_bind (wpAny_typeOf hTy ?_)
  rw [if_neg (by rw [show Builtin.List.listSameRef (.ref S) (.ref it) = false by simp [Builtin.List.listSameRef, hSI], ht.1.1, ht.1.2]; decide)]
  refine wpAny_bind (W.self 0 _ _ _ hst (wpAny_bind (wpAny_holding (hint _ _ _ hst ?_))))
  intro b tk
  cases b with
  | false =>
    have key := ht.2
    rw [if_neg (by intro hh; exact absurd (hh.symm.trans key) (by decide))]
    refine wpAny_pure ⟨plainId_quiet F.plain_extend_loop _, codeAny_extend_loopS W.toS hn _ hSf _ n 0 _ _ _ rfl (Nat.zero_le _) hst hS (ItemsOf.nil _) fun s' acc c hm hS' ha => ?_⟩
    rw [Moved.eq_with hm]
    exact hR s'.heap s'.toks acc c hm.heap hS' ha
  | true =>
    rw [if_pos (by rfl)]
    refine wpAny_bind (wpAny_rule (wpAny_bind ?_))
    show wpAny _ A.in1 (updateSeq S (fun x => x.push .none) >>= fun _ => updateSeq S (fun x => x.pop)) _ _ _
    have hS0 : ({ s with toks := tk } : Shared).heap.get? S = some { cls := .type "list", data := .seq #[] c₀ } := hS
    refine wpAny_bind (wpAny_updateSeq hS0 rfl ?_)
    have g1 := Heap.get?_update_self (Obj.mapSeq fun x => x.push Value.none) hS0 rfl
    refine wpAny_updateSeq (hz := by seq_fits) g1 rfl ?_
    have g2 := Heap.get?_update_self (Obj.mapSeq fun x => x.pop) g1 rfl
    have oth : ∀ b o, b ≠ S → s.heap.get? b = some o → ((s.heap.update S (Obj.mapSeq fun x => x.push Value.none)).update S (Obj.mapSeq fun x => x.pop)).get? b = some o := fun b o hb e =>
      (Heap.get?_update_other _ _ (Ne.symm hb)).trans ((Heap.get?_update_other _ _ (Ne.symm hb)).trans e)
    refine wpAny_pure ⟨plainId_quiet F.plain_extend_loop _, codeAny_extend_loopS W.toS hn _ hSf _ n 0 _ _ _ rfl (Nat.zero_le _) (W.frame 0 _ _ hst fun b hb o e => oth b o (fun z => hSf (z ▸ hb)) e) g2 (ItemsOf.nil _) fun s' acc c hm hS' ha => ?_⟩
    rw [Moved.eq_with hm]
    exact hR s'.heap s'.toks acc c (fun b o hb e => hm.heap b o hb (oth b o (fun z => hb (z ▸ List.mem_cons_self)) e)) hS' ha
theorem lstRoom {Q : Value → Shared → Prop} {it : Addr} {T : String} {fp wr : List Addr} {n : Nat} {P : Nat → Value → Prop} {St : Nat → Heap → Prop} (W : Walks prog w A.in1.in1 it fp wr n P St)
    (hT : ∀ h i, St i h → ∃ o, h.get? it = some o ∧ o.cls = .type T) (ht : ((Value.type T == Value.type "list") = false ∧ (Value.type T == Value.type "tuple") = false) ∧ ["set", "frozenset", "dict", "dict_keys", "dict_values", "dict_items"].any (Value.type T == .type ·) = false)
    (hint : ∀ (s : Shared) (Q : Bool → Shared → Prop) (E : Value → Shared → Prop), St 0 s.heap → (∀ b tk, Q b { s with toks := tk }) → wpAny (model prog w) A.in1.in1 (Builtin.List.listLengthHint (.ref it)) Q E s)
    (hn : n ≤ sizeLine) (hfp : ∀ b ∈ fp, b < s.heap.objs.size) (hI : it ∈ fp) (hst : St 0 s.heap)
    (hQ : ∀ h' tk acc c, (∀ b o, b ∉ wr → s.heap.get? b = some o → h'.get? b = some o) → h'.get? s.heap.objs.size = some { cls := .type "list", dict := none, data := .seq acc c, slots := #[] } → ItemsOf P acc n → Q (.ref s.heap.objs.size) { s with heap := h', toks := tk }) :
    wpAny (model prog w) A (call (.type "list") [.ref it]) Q E s := by
  have hSf : s.heap.objs.size ∉ fp := fun hm => Nat.lt_irrefl _ (hfp _ hm)
  refine callType_codes (Q₁ := fun obj s₁ => obj = .ref s.heap.objs.size ∧ s₁ = { s with heap := s.heap.push { cls := .type "list", data := .seq #[] } }) F.called_list (F.typeCall_list_1 _) F.entry_list_init (code_list_new _ ⟨rfl, rfl⟩) fun obj s₁ h₁ => ?_
  obtain ⟨rfl, rfl⟩ := h₁
  have hS : (s.heap.push { cls := .type "list", data := .seq #[] }).get? s.heap.objs.size = some { cls := .type "list", data := .seq #[] } := Heap.get?_push_size _ rfl
  refine ⟨⟨_, hS, rfl⟩, F.args_list_init_2 _ _, ?_⟩
  show wpAny _ _ (do let old ← Builtin.List.listItems (.ref s.heap.objs.size); Builtin.List.listUpdate (.ref s.heap.objs.size) (fun _ => #[]); letGo old.toList.reverse; Builtin.List.listExtendWith (.ref s.heap.objs.size) (.ref it) .none) _ _ _
  refine wpAny_bind ?_; unfold Builtin.List.listItems; refine wpAny_bind (wpAny_seqItems hS rfl (wpAny_pure ?_))
  show wpAny _ _ (updateSeq s.heap.objs.size (fun _ => #[]) >>= fun _ => letGo (#[] : Array Value).toList.reverse >>= fun _ => Builtin.List.listExtendWith (.ref s.heap.objs.size) (.ref it) .none) _ _ _
  refine wpAny_bind (wpAny_updateSeq hS rfl (wpAny_bind (wpAny_letGo ?_)))
  have hS2 := Heap.get?_update_self (Obj.mapSeq (fun _ => (#[] : Array Value))) hS rfl
  have oth : ∀ b o, b ≠ s.heap.objs.size → s.heap.get? b = some o → ((s.heap.push { cls := .type "list", data := .seq #[] }).update s.heap.objs.size (Obj.mapSeq (fun _ => (#[] : Array Value)))).get? b = some o :=
    fun b o hb e => (Heap.get?_update_other _ _ (Ne.symm hb)).trans (Heap.get?_push_of_some _ e)
  refine extRoom (A := A.in1) W .none hT ht hint hn hSf hI (W.frame 0 _ _ hst fun b hb o e => oth b o (fun z => hSf (z ▸ hb)) e) _ hS2 fun h' tk acc c hk hS' ha => ?_
  exact ⟨rfl, hQ h' tk acc c (fun b o hb e => hk b o (fun z => (List.mem_cons.mp z).elim (fun z => Nat.lt_irrefl _ (z ▸ Heap.lt_size e)) hb) (oth b o (fun z => Nat.lt_irrefl _ (z ▸ Heap.lt_size e)) e)) hS' ha⟩
end
/-- list(reversed(x)), x a tuple -/
def tListRevT (K : PySem.W.Frag) (te : TE) : TE := fun σ H Q => te σ H fun v H1 => ∃ (a : Addr) (xs : List V), v = .ref a ∧ SqT K H1 a xs ∧ ∀ q, H1 q = none → Q (.ref q) (upd H1 q (.lst xs.reverse))
section
variable {X : Cx} {cl : Cl} {f : EE}
theorem pe_listRevT {e : Expr} {te : TE} {p p2 pos pos2 : Pos} (hc : X.calm = true) (hgl : Gl X "list") (hml : X.mg "list" = none) (hgr : Gl X "reversed") (hmr : X.mg "reversed" = none) (he : PE X e te)
    (ha : starEach [e] X.env = (false, eval e X.env) :: starEach [] X.env := by rfl)
    (hb : starEach [.Call (.Name "reversed" p2) [e] [] pos2] X.env = (false, eval (.Call (.Name "reversed" p2) [e] [] pos2) X.env) :: starEach [] X.env := by rfl) :
    PE X (.Call (.Name "list" p) [.Call (.Name "reversed" p2) [e] [] pos2] [] pos) (tListRevT X.K te) := ⟨fun pins s σ H Q I h => by
  refine Call_ (ld_blt I hgl hml (by rfl) (callWith_type1 (args_cons (Call_ (ld_blt I hgr hmr boot_reversed (callWith_type1 (args_cons (thn (he.run pins s σ H _ I h) fun u0 s1 ⟨v0, H1, I1, rv0, qv0⟩ => args_nil ?_) ha) ha rfl))) hb) hb rfl))
  obtain ⟨b, xs, rfl, hq, q⟩ := qv0
  cases (show u0 = Value.ref b from rv0)
  obtain ⟨its, rvs, pt, hz⟩ := I1.tuple hq
  have hn : its.toArray.size ≤ sizeLine := by rw [List.size_toArray, ← rvs.length]; exact hz
  have hn2 := hn
  rw [sizeLine_eq] at hn2
  refine call_reversed_tup pt (fun A E Q k => len_tuple pt (by omega) k) (args_nil ?_)
  have blt := IsTup.lt pt
  have hbn : b ≠ s1.heap.objs.size := Nat.ne_of_lt blt
  have W := walkRt (prog := X.prog) (w := X.w) (A := X.A.in1.in1) (show X.A.in1.in1.handled = none from I1.ok.hd hc) s1.heap.objs.size b hbn its.toArray hn
  have e0 : ((its.toArray.size : Nat) : Int) - 1 - ((0 : Nat) : Int) = (its.toArray.size : Int) - 1 := by omega
  refine lstRoom (s := { s1 with heap := s1.heap.push (rtObj b ((its.toArray.size : Int) - 1)), toks := s1.toks + 1 + 1 }) W (T := "reversed") (fun g i st => ⟨st.1.1.choose, st.1.1.choose_spec.1, st.1.1.choose_spec.2.1⟩) ⟨⟨by decide, by decide⟩, by decide⟩ (fun s2 R2 E2 st h2 => rt_hint (by have := st.1.1; rwa [e0] at this) st.1.2 hn h2) hn (fun x hx => ?_) (by simp) ⟨⟨?_, pt.push _⟩, Nat.zero_le _⟩ fun h' tk acc c hk hS hi => ?_
  · show x < (s1.heap.push _).objs.size
    rw [Heap.size_push]
    have hx' : x = s1.heap.objs.size ∨ x = b := by simpa using hx
    rcases hx' with rfl | rfl
    · exact Nat.lt_succ_self _
    · exact Nat.lt_succ_of_lt blt
  · rw [e0]
    exact ⟨_, Heap.get?_push_size _ rfl, rfl, rfl⟩
  · have hkk : ∀ x o, s1.heap.get? x = some o → h'.get? x = some o := fun x o ho => hk x o (fun z => Nat.lt_irrefl _ ((List.mem_singleton.mp z) ▸ Heap.lt_size ho)) (Heap.get?_push_of_some _ ho)
    have hsz : (s1.heap.push (rtObj b ((its.toArray.size : Int) - 1))).objs.size = s1.heap.objs.size + 1 := Heap.size_push _ _
    rw [hsz] at hS
    have hge : s1.heap.objs.size ≤ s1.heap.objs.size + 1 := Nat.le_succ _
    refine ⟨.ref (s1.heap.objs.size + 1), upd H1 (s1.heap.objs.size + 1) (.lst xs.reverse), I1.laid (t' := tk) hkk hge (show ObjOk X.prog X.w _ _ _ (.lst xs.reverse) from ⟨by rw [List.length_reverse]; exact hz, acc.toList, c, vals_rev rvs hi, by rw [Array.toArray_toList]; exact hS⟩), ?_, q _ (I1.hok.fresh hge)⟩
    show Value.ref _ = _
    rw [hsz]⟩
def gListRevT : D → Option D
  | .lst _ xs => if D.shs xs then some (.lst true xs.reverse) else none
  | .tup xs => if D.shs xs then some (.lst true xs.reverse) else none
  | _ => none
theorem se_listRevT {e : Expr} {p p2 pos pos2 : Pos} (hc : X.calm = true) (hgl : Gl X "list") (hml : X.mg "list" = none) (hgr : Gl X "reversed") (hmr : X.mg "reversed" = none) (he : Pk X cl e f)
    (ha : starEach [e] X.env = (false, eval e X.env) :: starEach [] X.env := by rfl)
    (hb : starEach [.Call (.Name "reversed" p2) [e] [] pos2] X.env = (false, eval (.Call (.Name "reversed" p2) [e] [] pos2) X.env) :: starEach [] X.env := by rfl) :
    Se X cl (.Call (.Name "list" p) [.Call (.Name "reversed" p2) [e] [] pos2] [] pos) (eUn gListRevT f) := ⟨fun W env d q σ H E V Q k => by
  obtain ⟨x, e1, e2⟩ := bind1 q
  unfold gListRevT at e2
  split at e2
  · rename_i o xs
    have q2 : eUn gListRev f env = some d := by
      show (f env).bind gListRev = some d
      rw [e1]
      exact e2
    exact (se_listRev (p := p) (p2 := p2) hc hgl hml hgr hmr he ha hb).run W env d q2 σ H E V Q k
  · split at e2
    · rename_i hs
      cases e2
      refine wE.of (pe_listRevT hc hgl hml hgr hmr pe_w ha hb) ?_
      refine he.run W env _ e1 σ H E V _ fun v H1 F s1 o1 => ?_
      obtain ⟨a, vs, rfl, hp, hv⟩ := own_tup o1
      refine ⟨a, vs, rfl, hp, fun p hp2 => ?_⟩
      exact (show Po X.K cl W H1 _ Q from fun v H2 F2 s2 o2 n2 f2 => k v H2 F2 (s1.trans s2) o2 n2 fun b hb => Same.back s1 (f2 b hb)).lst (hv.shs hs).shsR p hp2
    · cases e2
  · cases e2⟩
end
end Tg

namespace Tg
open PySem PySem.Spec L2
/-! ### a tuple of texts that the module has -/
def GTup (K : PySem.W.Frag) (mg : Str → Option Value) (x : Str) (zs : List (List Nat)) : Prop := ∃ p, mg x = some (.ref p) ∧ ∀ H, SqT K H p (zs.map fun z => V.str ⟨z.toArray⟩)
section
variable {X : Cx} {cl : Cl} {io : List Nat} {a b c e : Expr} {f g h : EE} {pos apos : Pos} {i : Nat} {p : EP1} {m m2 : EM} {x : Str} {zs : List (List Nat)} {pn : Pos}
theorem owns_texts {K : PySem.W.Frag} {W : List Addr} {H : Hp} : ∀ zs : List (List Nat), Owns K cl W H (zs.map fun z => V.str ⟨z.toArray⟩) (zs.map D.str) []
  | [] => .nil
  | z :: zs => Owns.cons (F := []) (G := []) (.str z) (owns_texts zs)
theorem inG_run (ha : Pk X cl a f) (hg : Gl X x) (v : GTup X.K X.mg x zs) (hd : (x == ("__debug__" : Str)) = false) {W : List Addr} {env : Env} {d : D} (q : eOp gIn f (eC (.tup (zs.map D.str))) env = some d) :
    ∃ r : R2, OpR X (compareOp .In) r ∧ ∃ tb : TE, PE X (.Name x pn) tb ∧ ∀ (σ : St) (H : Hp), EV X.K cl W H σ env → VD W H → ∀ Q : VK, Po X.K cl W H d Q → wE X a σ H fun v H1 => tb σ H1 fun u H2 => r v u H2 Q := by
  obtain ⟨dx, dy, e1, e2, e3⟩ := bind2 q
  cases e2
  obtain ⟨k, h1, rfl⟩ := map_bl e3
  obtain ⟨pt, hm, hT⟩ := v
  refine ⟨_, op_in_seq, _, pe_glob (v := .ref pt) hg hm rfl hd, fun σ H E V Q kk => ?_⟩
  refine ha.run W env dx e1 σ H E V _ fun w H1 F s1 o1 => ?_
  rcases inD_cases h1 with ⟨c, z, rfl, h2, rfl⟩ | ⟨hf, h2⟩
  · cases h2
  · rcases h2 with ⟨xs, h3, h4, rfl⟩ | ⟨o, xs, h3, h4, rfl⟩
    · cases h3
      have os := owns_texts (K := X.K) (cl := cl) (W := W) (H := H1) zs
      refine ⟨pt, _, rfl, .inr (hT H1), own_flat o1 hf, owns_flat os h4, ?_⟩
      show Q (.bl (inV w _)) H1
      rw [owns_any o1 hf os h4]
      exact kk _ H1 [] s1 (.bl _) List.nodup_nil fun _ z => nomatch z
    · cases h3
theorem se_inG (ha : Pk X cl a f) (hg : Gl X x) (v : GTup X.K X.mg x zs) (hm : behindInMarks .In (.Name x pn) = false := by rfl) (hd : (x == ("__debug__" : Str)) = false := by decide) : Se X cl (.Compare a [.In] [.Name x pn] pos) (eOp gIn f (eC (.tup (zs.map D.str)))) := by
  refine ⟨fun W env d q σ H E V Q k => ?_⟩
  obtain ⟨r, hr, tb, hb, run⟩ := inG_run ha hg v hd q
  exact wE.of (pe_cmpR hr pe_w hb hm) (run σ H E V Q k)
theorem te_inG (ha : Pk X cl a f) (hg : Gl X x) (v : GTup X.K X.mg x zs) (hm : behindInMarks .In (.Name x pn) = false := by rfl) (hd : (x == ("__debug__" : Str)) = false := by decide) : Te X cl (.Compare a [.In] [.Name x pn] pos) (eOp gIn f (eC (.tup (zs.map D.str)))) := by
  refine ⟨fun W env d q σ H E V Q k => ?_⟩
  obtain ⟨r, hr, tb, hb, run⟩ := inG_run ha hg v hd q
  exact wT.of (pt_cmpR hr pe_w hb hm) (run σ H E V _ fun v' H1 F s1 o1 _ _ => ⟨d, own_bl o1, k H1 s1⟩)
theorem gtup_ok {K : PySem.W.Frag} {mg : Str → Option Value} {x : Str} {vs : List He.Dv} {zs : List (List Nat)} (hm : mg x = some (.ref (He.ga K x))) (ht : He.tupB K x vs = true) (e : vs.map (He.Dv.v K) = zs.map fun z => V.str ⟨z.toArray⟩) : GTup K mg x zs :=
  ⟨_, hm, fun H => by rw [← e]; exact He.tupB_ok ht H⟩
end
/-! ### tests that change things -/
structure Tv (X : Cx) (cl : Cl) (e : Expr) (f : EM) : Prop where
  run : ∀ (R F : List Addr) (env env' : Env) (b : Bool), f env = some (.bl b, env') → ∀ (σ : St) (H : Hp), ER X.K cl R F σ H env → ∀ Q : Bool → Hp → Prop,
    (∀ H' F', ER X.K cl R F' σ H' env' → Fr F H F' H' → Q b H') → wT X e σ H Q
structure Twv (X : Cx) (cl : Cl) (e : Expr) (f : EM) : Prop where
  run : ∀ (R F : List Addr) (env env' : Env) (b : Bool), f env = some (.bl b, env') → ∀ (σ : St) (H : Hp), ER X.K cl R F σ H env → ∀ Q : Bool → Hp → Prop,
    (∀ H' F', ER X.K cl R F' σ H' env' → Fr F H F' H' → Q b H') → wW X e σ H Q
def sIfM (c : EM) (a b : SS) : SS := fun env => match c env with
  | some (.bl true, env') => a env'
  | some (.bl false, env') => b env'
  | _ => none
def mAnd (a b : EM) : EM := fun env => match a env with
  | some (.bl true, env') => b env'
  | some (.bl false, env') => some (.bl false, env')
  | _ => none
def mOr (a b : EM) : EM := fun env => match a env with
  | some (.bl false, env') => b env'
  | some (.bl true, env') => some (.bl true, env')
  | _ => none
def mNot (a : EM) : EM := fun env => (a env).bind fun x => (gNot x.1).map fun d => (d, x.2)
/-- a value that moves, then one that is looked at -/
def mOp (g : D → D → Option D) (a : EM) (b : EE) : EM := fun env => (a env).bind fun x => (b x.2).bind fun y => (g x.1 y).map fun d => (d, x.2)
def mUn (g : D → Option D) (a : EM) : EM := fun env => (a env).bind fun x => (g x.1).map fun d => (d, x.2)
/-- lo <= moved < hi -/
def mChain (g g' : D → D → Option D) (a : EE) (b : EM) (c : EE) : EM := fun env => (a env).bind fun x => (b env).bind fun y => match g x y.1 with
  | some (.bl true) => (c y.2).bind fun z => (g' y.1 z).map fun d => (d, y.2)
  | some (.bl false) => some (.bl false, y.2)
  | _ => none
section
variable {X : Cx} {cl : Cl} {io : List Nat} {a b c e : Expr} {f g h : EE} {pos apos : Pos} {i : Nat} {p : EP1} {m m2 : EM} {s t : SS} {rest : List Expr}
theorem sm_ifM {A B : List Stmt} (hc : Tv X cl c m) (ha : Sb X cl io A s) (hb : Sb X cl io B t) : Sm X cl io (.If c A B pos) (sIfM m s t) := ⟨fun R F env fl q σ H E D k => by
  refine wS.of (ps_if pt_w pb_w pb_w) ?_
  unfold sIfM at q
  split at q
  · rename_i env' e1
    refine hc.run R F env env' true e1 σ H E _ fun H1 F1 E1 fr => ?_
    rw [if_pos rfl]
    exact ha.run R F1 env' fl q σ H1 E1 D (k.step fr Pin.refl)
  · rename_i env' e1
    refine hc.run R F env env' false e1 σ H E _ fun H1 F1 E1 fr => ?_
    rw [if_neg Bool.false_ne_true]
    exact hb.run R F1 env' fl q σ H1 E1 D (k.step fr Pin.refl)
  · cases q⟩
theorem tv_te (ha : Te X cl a f) : Tv X cl a (mE f) := ⟨fun R F env env' b q σ H E Q k => by
  unfold mE at q
  cases e1 : f env with
  | none => rw [e1] at q; cases q
  | some d =>
    rw [e1] at q
    cases q
    exact ha.run _ env b e1 σ H E.ev E.vd' Q fun H1 s1 => k H1 F (E.mono s1) (Fr.same s1 fun a ha => .inl ha)⟩
/-- what is left when a value is gone -/
theorem fr_drop {F F' G : List Addr} {H H' : Hp} (fr : Fr F H (G ++ F') H') : Fr F H F' H' := fr.mono fun a ha => .inl (List.mem_append_right _ ha)
theorem tv_cmp {op : CmpOp} {G : D → D → Option D} (o : GO X cl (compareOp op) G) (ha : Sv X cl a m) (hb : Pk X cl b g) (hm : behindInMarks op b = false) : Tv X cl (.Compare a [op] [b] pos) (mOp G m g) := ⟨fun R F env env' bb q σ H E Q k => by
  unfold mOp at q
  obtain ⟨⟨dx, env1⟩, e1, q1⟩ := bind1 q
  obtain ⟨dy, e2, q2⟩ := bind1 q1
  cases e3 : G dx dy with
  | none => rw [e3] at q2; cases q2
  | some d =>
    rw [e3] at q2
    cases q2
    obtain ⟨r, hr, run⟩ := o.run dx dy _ e3
    refine wT.of (pt_cmpR hr pe_w pe_w hm) ?_
    refine ha.run R F env env1 dx e1 σ H E _ fun v H1 F1 Gv ep o1 fr => ?_
    refine hb.run (R ++ F1) env1 dy e2 σ H1 ep.er.ev ep.er.vd' _ fun u H2 G' s2 o2 => ?_
    have V : VD (R ++ F1) H2 := ep.er.vd'.mono s2
    have o1' := (o1.weak fun x hx => List.mem_append_right _ hx).mono s2
    exact run (R ++ F1) H2 v u Gv G' V o1' o2 _ fun z H3 F3 s3 o3 n3 f3 => ⟨bb, own_bl o3, k H3 F1 ((ep.er.mono s2).mono s3) ((fr_drop fr).trans (Fr.same (s2.trans s3) fun a ha => .inl ha))⟩⟩
theorem tv_isN {j pos'} (ha : Sv X cl a m) : Tv X cl (.Compare a [.Is] [.Constant .none j pos'] pos) (mUn gIsN m) := ⟨fun R F env env' bb q σ H E Q k => by
  unfold mUn at q
  obtain ⟨⟨dx, env1⟩, e1, q1⟩ := bind1 q
  cases e2 : gIsN dx with
  | none => rw [e2] at q1; cases q1
  | some d =>
    rw [e2] at q1
    cases q1
    have hd : dx ≠ .hole ∧ bb = isNon dx := by
      unfold gIsN at e2
      split at e2
      · cases e2
      · rename_i hh
        cases e2
        exact ⟨fun z => hh z, rfl⟩
    obtain ⟨h1, rfl⟩ := hd
    refine wT.of (pt_cmpR op_isN pe_w pe_non (nomark _)) ?_
    refine ha.run R F env env1 dx e1 σ H E _ fun v H1 F1 Gv ep o1 fr => ⟨rfl, ?_⟩
    rw [own_isNon o1 h1]
    exact ⟨_, rfl, k H1 F1 ep.er (fr_drop fr)⟩⟩
theorem tv_notN {j pos'} (ha : Sv X cl a m) : Tv X cl (.Compare a [.IsNot] [.Constant .none j pos'] pos) (mUn gNotN m) := ⟨fun R F env env' bb q σ H E Q k => by
  unfold mUn at q
  obtain ⟨⟨dx, env1⟩, e1, q1⟩ := bind1 q
  cases e2 : gNotN dx with
  | none => rw [e2] at q1; cases q1
  | some d =>
    rw [e2] at q1
    cases q1
    have hd : dx ≠ .hole ∧ bb = !isNon dx := by
      unfold gNotN at e2
      split at e2
      · cases e2
      · rename_i hh
        cases e2
        exact ⟨fun z => hh z, rfl⟩
    obtain ⟨h1, rfl⟩ := hd
    refine wT.of (pt_cmpR op_notN pe_w pe_non (nomark _)) ?_
    refine ha.run R F env env1 dx e1 σ H E _ fun v H1 F1 Gv ep o1 fr => ⟨rfl, ?_⟩
    rw [own_isNon o1 h1]
    exact ⟨_, rfl, k H1 F1 ep.er (fr_drop fr)⟩⟩
theorem tv_chain {op op' : CmpOp} {G G' : D → D → Option D} {r r' : R2} (o : GC X cl (compareOp op) G r) (o' : GC X cl (compareOp op') G' r') (ha : Pk X cl a f) (hb : Sv X cl b m) (hc : Pk X cl c h)
    (hi : ∀ env d, f env = some d → ∃ i, d = .int i) (hm : lastMarks [op, op'] [b, c] = false := by with_unfolding_all rfl) : Tv X cl (.Compare a [op, op'] [b, c] pos) (mChain G G' f m h) := ⟨fun R F env env' bb q σ H E Q k => by
  unfold mChain at q
  obtain ⟨x, e1, q1⟩ := bind1 q
  obtain ⟨⟨y, env1⟩, e2, q2⟩ := bind1 q1
  obtain ⟨i0, rfl⟩ := hi env x e1
  refine wT.of (pt_chain o.rule o'.rule pe_w pe_w pe_w hm) ?_
  refine ha.run _ env _ e1 σ H E.ev E.vd' _ fun v H1 Fa s1 o1 => ?_
  cases own_int o1
  refine hb.run R F env env1 y e2 σ H1 (E.mono s1) _ fun u H2 F2 Gv ep o2 fr => ?_
  have fr' : Fr F H F2 H2 := (Fr.same s1 fun a ha => .inl ha).trans (fr_drop fr)
  have o2' := o2.weak (W' := R ++ F2) fun x hx => List.mem_append_right _ hx
  split at q2
  · rename_i e3
    obtain ⟨z, e4, q3⟩ := bind1 q2
    refine o.run _ y _ e3 (R ++ F2) H2 _ u [] Gv ep.er.vd' (.int i0) o2' _ fun w' H3 F3 s3 o3 _ _ => ?_
    refine ⟨true, own_bl o3, ?_⟩
    rw [if_pos rfl]
    cases e5 : G' y z with
    | none => rw [e5] at q3; cases q3
    | some d =>
      rw [e5] at q3
      cases q3
      have e4 : h env1 = some z := e4
      refine hc.run (R ++ F2) env1 z e4 σ H3 (ep.er.mono s3).ev (ep.er.mono s3).vd' _ fun t H4 F4 s4 o4 => ?_
      exact o'.run y z _ e5 (R ++ F2) H4 u t Gv F4 ((ep.er.vd'.mono s3).mono s4) ((o2'.mono s3).mono s4) o4 _ fun w H5 F5 s5 o5 _ _ => ⟨bb, own_bl o5, k H5 F2 (((ep.er.mono s3).mono s4).mono s5) (fr'.trans (Fr.same ((s3.trans s4).trans s5) fun a ha => .inl ha))⟩
  · rename_i e3
    cases q2
    refine o.run _ y _ e3 (R ++ F2) H2 _ u [] Gv ep.er.vd' (.int i0) o2' _ fun w' H3 F3 s3 o3 _ _ => ?_
    refine ⟨false, own_bl o3, ?_⟩
    rw [if_neg Bool.false_ne_true]
    exact ⟨false, rfl, k H3 F2 (ep.er.mono s3) (fr'.trans (Fr.same s3 fun a ha => .inl ha))⟩
  · cases q2⟩
theorem Twv.tv (h : Twv X cl e m) : Tv X cl e m := ⟨fun R F env env' b q σ H E Q k => fun pins s I => h.run R F env env' b q σ H E Q k _ pins s I⟩
theorem twv_one_and (h : Tv X cl a m) : Twv X cl (.BoolOp .And [a] pos) m := ⟨fun R F env env' d q σ H E Q k => wW.of (pw_and1 pt_w) (h.run R F env env' d q σ H E Q k)⟩
theorem twv_one_or (h : Tv X cl a m) : Twv X cl (.BoolOp .Or [a] pos) m := ⟨fun R F env env' d q σ H E Q k => wW.of (pw_or1 pt_w) (h.run R F env env' d q σ H E Q k)⟩
theorem twv_and (ha : Tv X cl a m) (hb : Twv X cl (.BoolOp .And (b :: rest) pos) m2) : Twv X cl (.BoolOp .And (a :: b :: rest) pos) (mAnd m m2) := ⟨fun R F env env' d q σ H E Q k => by
  refine wW.of (pw_and pt_w pw_w) ?_
  unfold mAnd at q
  split at q
  · rename_i env1 e1
    refine ha.run R F env env1 true e1 σ H E _ fun H1 F1 E1 fr => ?_
    rw [if_pos rfl]
    exact hb.run R F1 env1 env' d q σ H1 E1 Q fun H2 F2 E2 fr2 => k H2 F2 E2 (fr.trans fr2)
  · rename_i env1 e1
    cases q
    refine ha.run R F env env' false e1 σ H E _ fun H1 F1 E1 fr => ?_
    rw [if_neg Bool.false_ne_true]
    exact k H1 F1 E1 fr
  · cases q⟩
theorem twv_or (ha : Tv X cl a m) (hb : Twv X cl (.BoolOp .Or (b :: rest) pos) m2) : Twv X cl (.BoolOp .Or (a :: b :: rest) pos) (mOr m m2) := ⟨fun R F env env' d q σ H E Q k => by
  refine wW.of (pw_or pt_w pw_w) ?_
  unfold mOr at q
  split at q
  · rename_i env1 e1
    refine ha.run R F env env1 false e1 σ H E _ fun H1 F1 E1 fr => ?_
    rw [if_neg Bool.false_ne_true]
    exact hb.run R F1 env1 env' d q σ H1 E1 Q fun H2 F2 E2 fr2 => k H2 F2 E2 (fr.trans fr2)
  · rename_i env1 e1
    cases q
    refine ha.run R F env env' true e1 σ H E _ fun H1 F1 E1 fr => ?_
    rw [if_pos rfl]
    exact k H1 F1 E1 fr
  · cases q⟩
theorem tv_not (ha : Tv X cl a m) : Tv X cl (.UnaryOp .Not a pos) (mNot m) := ⟨fun R F env env' b q σ H E Q k => by
  unfold mNot at q
  obtain ⟨⟨x, env1⟩, e1, e2⟩ := bind1 q
  unfold gNot at e2
  split at e2
  · rename_i b' hx
    cases e2
    cases hx
    exact wT.of (pt_not pt_w) (ha.run R F env env1 b' e1 σ H E _ fun H1 F1 E1 fr => k H1 F1 E1 fr)
  · cases e2⟩
/-! ### as values -/
theorem sv_isN {j pos'} (ha : Sv X cl a m) : Sv X cl (.Compare a [.Is] [.Constant .none j pos'] pos) (mUn gIsN m) := ⟨fun R F env env' d q σ H E Q k => by
  unfold mUn at q
  obtain ⟨⟨dx, env1⟩, e1, q1⟩ := bind1 q
  cases e2 : gIsN dx with
  | none => rw [e2] at q1; cases q1
  | some d1 =>
    rw [e2] at q1
    cases q1
    have hd : dx ≠ .hole ∧ d = .bl (isNon dx) := by
      unfold gIsN at e2
      split at e2
      · cases e2
      · rename_i hh
        cases e2
        exact ⟨fun z => hh z, rfl⟩
    obtain ⟨h1, rfl⟩ := hd
    refine wE.of (pe_cmpR op_isN pe_w pe_non (nomark _)) ?_
    refine ha.run R F env env1 dx e1 σ H E _ fun v H1 F1 Gv ep o1 fr => ⟨rfl, ?_⟩
    rw [own_isNon o1 h1]
    exact k _ H1 F1 [] (ep.er.ep (Same.refl _) List.nodup_nil (fun _ z => nomatch z) (fun _ z => nomatch z)) (.bl _) (fr_drop fr)⟩
theorem sv_one {op} (h : Sv X cl a m) : Sv X cl (.BoolOp op [a] pos) m := ⟨fun R F env env' d q σ H E Q k => wE.of (pe_one pe_w) (h.run R F env env' d q σ H E Q k)⟩
theorem sv_and (ha : Sv X cl a m) (hb : Sv X cl (.BoolOp .And (b :: rest) pos) m2) : Sv X cl (.BoolOp .And (a :: b :: rest) pos) (mAnd m m2) := ⟨fun R F env env' d q σ H E Q k => by
  refine wE.of (pe_and pe_w pe_w) ?_
  unfold mAnd at q
  split at q
  · rename_i env1 e1
    refine ha.run R F env env1 _ e1 σ H E _ fun v H1 F1 Gv ep o1 fr => ⟨true, own_bl o1, ?_⟩
    rw [if_pos rfl]
    exact hb.run R F1 env1 env' d q σ H1 ep.er Q fun u H2 F2 G2 ep2 o2 fr2 => k u H2 F2 G2 ep2 o2 ((fr_drop fr).trans fr2)
  · rename_i env1 e1
    cases q
    refine ha.run R F env env' _ e1 σ H E _ fun v H1 F1 Gv ep o1 fr => ⟨false, own_bl o1, ?_⟩
    rw [if_neg Bool.false_ne_true]
    exact k _ H1 F1 [] (ep.er.ep (Same.refl _) List.nodup_nil (fun _ z => nomatch z) (fun _ z => nomatch z)) (.bl _) (fr_drop fr)
  · cases q⟩
/-! ### xs.count(k) of ints -/
def gCount : D → D → Option D
  | .lst _ xs, .int k => (intsD xs).map fun ns => .int (ns.count k : Nat)
  | _, _ => none
theorem se_count (ha : Pk X cl a f) (hb : Pk X cl b g) (h1 : starEach [b] X.env = (false, eval b X.env) :: starEach [] X.env := by rfl)
    (hpe : ∀ {ta : TE} {t : TA}, PE X a ta → PA X [b] t → PE X (.Call (.Attribute a "count" apos) [b] [] pos) (tBM X.K "list" (rCntI X.K) ta t) := by
      intro ta t h1 h2; exact pe_bm PySem.F.plainAttrs_list PySem.F.slot_list_count PySem.F.type_list_count mt_lcount h1 h2) : Se X cl (.Call (.Attribute a "count" apos) [b] [] pos) (eOp gCount f g) := ⟨fun W env d q σ H E V Q k => by
  obtain ⟨x, y, e1, e2, e3⟩ := bind2 q
  unfold gCount at e3
  split at e3
  · rename_i o xs z
    cases e4 : intsD xs with
    | none => rw [e4] at e3; cases e3
    | some ns =>
      rw [e4] at e3
      cases e3
      refine wE.of (hpe pe_w (pa_cons pe_w pa_nil h1)) ?_
      refine ha.run W env _ e1 σ H E V _ fun v H1 F s1 o1 => ?_
      obtain ⟨pp, vs, G, rfl, hp, hs, _⟩ := own_lst o1
      refine ⟨.inl ⟨rfl, _, SqL.of hp⟩, ?_⟩
      refine hb.run W env _ e2 σ H1 (E.mono s1) (V.mono s1) _ fun u H2 G2 s2 o2 => ?_
      cases own_int o2
      rw [intsD_eq e4] at hs
      cases own_intsV hs
      exact ⟨pp, ns, z, rfl, rfl, SqL.of (s2 _ _ hp), k _ H2 [] (s1.trans s2) (.int _) List.nodup_nil fun _ z => nomatch z⟩
  · cases e3⟩
/-! ### list(range(..)) -/
def eRgL (lo hi : EE) : EE := fun env => (lo env).bind fun x => (hi env).bind fun y => match x, y with
  | .int i, .int j => if small62 i && small62 j && decide ((j - i).toNat ≤ line) then some (.lst true ((List.range (j - i).toNat).map fun (k : Nat) => .int (i + (k : Int)))) else none
  | _, _ => none
theorem own_rg {K : PySem.W.Frag} {W : List Addr} {H : Hp} (i : Int) (n : Nat) : Owns K cl W H ((List.range n).map fun (k : Nat) => V.int (i + (k : Int))) ((List.range n).map fun (k : Nat) => D.int (i + (k : Int))) [] := by
  generalize List.range n = l
  induction l with
  | nil => exact .nil
  | cons x r ih => exact Owns.cons (F := []) (G := []) (.int _) ih
theorem se_listRg1 {p0 p1 : Pos} (ha : Pk X cl a f) (hl : Gl X "list") (ml : X.mg "list" = none) (hg : Gl X "range") (hm : X.mg "range" = none) (hc : X.calm = true := by rfl)
    (h1 : starEach [a] X.env = (false, eval a X.env) :: starEach [] X.env := by rfl)
    (h2 : starEach [.Call (.Name "range" p1) [a] [] pos] X.env = (false, eval (.Call (.Name "range" p1) [a] [] pos) X.env) :: starEach [] X.env := by rfl) {pos2 : Pos} :
    Se X cl (.Call (.Name "list" p0) [.Call (.Name "range" p1) [a] [] pos] [] pos2) (eRgL (eC (.int 0)) f) := ⟨fun W env d q σ H E V Q k => by
  unfold eRgL at q
  obtain ⟨x, y, e1, e2, e3⟩ := bind2 q
  cases e1
  split at e3
  · rename_i i0 j0 hx
    cases hx
    split at e3
    · rename_i hz
      simp only [Bool.and_eq_true, decide_eq_true_eq, small62] at hz
      cases e3
      refine wE.of (pe_listRg hc hl ml (prg_1 hg hm pe_w h1) h2) ?_
      refine ha.run W env _ e2 σ H E V _ fun v H1 F s1 o1 => ?_
      cases own_int o1
      refine ⟨_, rfl, ⟨by decide, by decide, hz.1.2.1, hz.1.2.2, by have := hz.2; unfold line at this; omega⟩, fun l hl => ?_⟩
      exact Po.lst (fun v H' F s o n f => k v H' F (s1.trans s) o n fun a ha => Same.back s1 (f a ha)) (own_rg 0 _) l hl
    · cases e3
  · cases e3⟩
theorem se_listRg2 {p0 p1 : Pos} (ha : Pk X cl a f) (hb : Pk X cl b g) (hl : Gl X "list") (ml : X.mg "list" = none) (hg : Gl X "range") (hm : X.mg "range" = none) (hc : X.calm = true := by rfl)
    (h1 : starEach [a, b] X.env = (false, eval a X.env) :: starEach [b] X.env := by rfl) (h3 : starEach [b] X.env = (false, eval b X.env) :: starEach [] X.env := by rfl)
    (h4 : (backTo pos (starEach [b] X.env)).any (·.1) = false := by rfl)
    (h2 : starEach [.Call (.Name "range" p1) [a, b] [] pos] X.env = (false, eval (.Call (.Name "range" p1) [a, b] [] pos) X.env) :: starEach [] X.env := by rfl) {pos2 : Pos} :
    Se X cl (.Call (.Name "list" p0) [.Call (.Name "range" p1) [a, b] [] pos] [] pos2) (eRgL f g) := ⟨fun W env d q σ H E V Q k => by
  unfold eRgL at q
  obtain ⟨x, y, e1, e2, e3⟩ := bind2 q
  split at e3
  · split at e3
    · rename_i hz
      simp only [Bool.and_eq_true, decide_eq_true_eq, small62] at hz
      cases e3
      refine wE.of (pe_listRg hc hl ml (prg_2 hg hm pe_w pe_w h1 h3 h4) h2) ?_
      refine ha.run W env _ e1 σ H E V _ fun v H1 F s1 o1 => ?_
      cases own_int o1
      refine hb.run W env _ e2 σ H1 (E.mono s1) (V.mono s1) _ fun u H2 G2 s2 o2 => ?_
      cases own_int o2
      refine ⟨_, _, rfl, rfl, ⟨hz.1.1.1, hz.1.1.2, hz.1.2.1, hz.1.2.2, by have := hz.2; unfold line at this; omega⟩, fun l hl => ?_⟩
      exact Po.lst (fun v H' F s o n f => k v H' F ((s1.trans s2).trans s) o n fun a ha => Same.back (s1.trans s2) (f a ha)) (own_rg _ _) l hl
    · cases e3
  · cases e3⟩
/-! ### reversed(range(n)) -/
def iRevRg (hi : EE) : It := fun env => match hi env with
  | some (.int n) => if small62 n then some ((List.range n.toNat).reverse.map fun (k : Nat) => .int (k : Int)) else none
  | _ => none
theorem ii_revRg {tg : Expr} {p0 p1 pos2 : Pos} (ha : Pk X cl a f) (hr : Gl X "reversed") (mr : X.mg "reversed" = none) (hg : Gl X "range") (hm : X.mg "range" = none)
    (h1 : starEach [a] X.env = (false, eval a X.env) :: starEach [] X.env := by rfl)
    (h2 : starEach [.Call (.Name "range" p1) [a] [] pos] X.env = (false, eval (.Call (.Name "range" p1) [a] [] pos) X.env) :: starEach [] X.env := by rfl) :
    Ii X cl tg (.Call (.Name "reversed" p0) [.Call (.Name "range" p1) [a] [] pos] [] pos2) (iRevRg f) := ⟨fun W env ds q σ H E V => by
  unfold iRevRg at q
  split at q
  · rename_i n e1
    split at q
    · rename_i hz
      unfold small62 at hz
      rw [decide_eq_true_eq] at hz
      cases q
      refine ⟨_, pi_revR hr mr (prg_1 hg hm pe_w h1) h2, fun R k => ?_⟩
      refine ha.run W env _ e1 σ H E V _ fun v H1 F s1 o1 => ?_
      cases own_int o1
      refine ⟨n, rfl, by decide, by decide, hz.1, hz.2, ?_⟩
      rw [Int.sub_zero]
      refine k (Itc (0 + ((n.toNat : Nat) : Int) - 1) (-1) n.toNat) H1 (fun _ => True) (YFn fun i => .int (0 + ((n.toNat : Nat) : Int) - 1 + (i : Int) * (-1))) s1 (by rw [List.length_map, List.length_reverse, List.length_range]; exact walk_rangeC) (fun _ _ _ => trivial) fun i x H2 H3 W2 d kp y hd => ?_
      obtain ⟨rfl, rfl⟩ := y
      have hd' : ((List.range n.toNat).reverse.map fun (k : Nat) => D.int (k : Int))[i]? = some d := hd
      rw [List.getElem?_map] at hd'
      have hi : i < n.toNat := by
        cases h : (List.range n.toNat).reverse[i]? with
        | none => rw [h] at hd'; cases hd'
        | some z => have := (List.getElem?_eq_some_iff.mp h).1; simpa using this
      rw [List.getElem?_reverse (by simpa using hi), List.length_range, List.getElem?_range (by omega)] at hd'
      cases hd'
      refine ⟨Same.refl _, ?_⟩
      have e : (0 : Int) + ((n.toNat : Nat) : Int) - 1 + (i : Int) * (-1) = ((n.toNat - 1 - i : Nat) : Int) := by omega
      show Own X.K cl W2 H3 (L2.V.int ((0 : Int) + ((n.toNat : Nat) : Int) - 1 + (i : Int) * (-1))) (.int ((n.toNat - 1 - i : Nat) : Int)) []
      rw [e]
      exact .int _
    · cases q
  · cases q⟩
end
end Tg

namespace Tg
open PySem PySem.Spec L2
section
variable {X : Cx} {cl : Cl} {io : List Nat} {a b c e : Expr} {f g h : EE} {pos apos : Pos} {i : Nat} {p : EP1} {m : EM}
/-- a call that changes things, as a test -/
theorem tv_val (ha : Sv X cl e m) (he : ∀ whole, isTrue e X.env whole = (do let v ← whole; standAt e.pos; holding [v] (truthy v)) := by intro _; rfl) : Tv X cl e m := ⟨fun R F env env' b q σ H E Q k => by
  refine wT.of (pt_val pe_w he) ?_
  exact ha.run R F env env' _ q σ H E _ fun v H1 F1 G ep o1 fr => ⟨b, own_bl o1, k H1 F1 ep.er (fr_drop fr)⟩⟩
/-! ### x is True -/
def gIsB : D → D → Option D
  | .bl a, .bl b => some (.bl (decide (a = b)))
  | _, _ => none
def gIsNotB : D → D → Option D
  | .bl a, .bl b => some (.bl (!decide (a = b)))
  | _, _ => none
theorem go_isB : GO X cl (compareOp .Is) gIsB := ⟨fun dx dy d q => by
  unfold gIsB at q
  split at q
  · cases q
    refine ⟨_, op_is_bl, fun W H x y Fx Fy V ox oy Q k => ?_⟩
    cases own_bl ox
    cases own_bl oy
    exact ⟨_, _, rfl, rfl, k.bl⟩
  · cases q⟩
theorem go_isNotB : GO X cl (compareOp .IsNot) gIsNotB := ⟨fun dx dy d q => by
  unfold gIsNotB at q
  split at q
  · cases q
    refine ⟨_, op_isnot_bl, fun W H x y Fx Fy V ox oy Q k => ?_⟩
    cases own_bl ox
    cases own_bl oy
    exact ⟨_, _, rfl, rfl, k.bl⟩
  · cases q⟩
/-! ### f(..)[k].append(e): what is made is dropped -/
def sTmpApp (f g h : EE) : SS := fun env => (f env).bind fun x => match x with
  | .tup xs => (g env).bind fun k => match k with
    | .int z => match atD xs z with
      | some (.lst true ys) => (h env).bind fun y => if ys.length < line then some (.nx env) else none
      | _ => none
    | _ => none
  | _ => none
theorem sm_tmpApp {cpos spos : Pos} (hc : Se X cl c f) (hk : Pk X cl b g) (he : Pk X cl e h) (hix : PlainIx b)
    (hs : swapsWith (.Call (.Attribute (.Subscript c b pos) "append" apos) [e] [] cpos) none spos.line X.env = pure false := by rfl)
    (hpe : ∀ {ta : TE} {t : TA}, PE X (.Subscript c b pos) ta → PA X [e] t → PE X (.Call (.Attribute (.Subscript c b pos) "append" apos) [e] [] cpos) (tBM X.K "list" rAppend ta t) := by
      intro ta t h1 h2; exact pe_bm PySem.F.plainAttrs_list PySem.F.slot_list_append PySem.F.type_list_append mt_append h1 h2)
    (h1 : starEach [e] X.env = (false, eval e X.env) :: starEach [] X.env := by rfl) : Sm X cl io (.Expr (.Call (.Attribute (.Subscript c b pos) "append" apos) [e] [] cpos) spos) (sTmpApp f g h) := ⟨fun R F env fl q σ H E D k => by
  unfold sTmpApp at q
  obtain ⟨x, e1, q1⟩ := bind1 q
  split at q1
  rotate_left
  · cases q1
  rename_i xs
  obtain ⟨dk, e2, q2⟩ := bind1 q1
  split at q2
  rotate_left
  · cases q2
  rename_i z
  split at q2
  rotate_left
  · cases q2
  rename_i ys e3
  obtain ⟨y, e4, q3⟩ := bind1 q2
  split at q3
  rotate_left
  · cases q3
  rename_i hz
  cases q3
  refine wS.of (ps_expr (hpe (pe_ix ix_seq pe_w pe_w hix) (pa_cons pe_w pa_nil h1)) hs) ?_
  refine hc.run _ env _ e1 σ H E.ev E.vd' _ fun v H1 F1 s1 o1 n1 f1 => ?_
  refine hk.run _ env _ e2 σ H1 (E.ev.mono s1) (E.vd'.mono s1) _ fun u H2 G2 s2 o2 => ?_
  cases own_int o2
  obtain ⟨pt, vs, rfl, hp, hv⟩ := own_tup (o1.mono s2)
  obtain ⟨w, G1, g1, g2, g3⟩ := owns_at hv e3
  refine .inr (.inl ⟨pt, vs, _, w, rfl, rfl, hp, g1, ?_⟩)
  cases g2 with
  | lstO hq hys =>
    rename_i qa us Gx
    refine ⟨.inl ⟨rfl, _, SqL.of hq⟩, ?_⟩
    refine he.run _ env _ e4 σ H2 ((E.ev.mono s1).mono s2) ((E.vd'.mono s1).mono s2) _ fun t H3 G3 s3 o3 => ?_
    refine ⟨qa, us, t, rfl, rfl, s3 _ _ hq, by rw [hys.length, ← line_eq]; exact hz, ?_⟩
    have hn : H qa = none := f1 qa (g3 qa List.mem_cons_self)
    have s : Same H (upd H3 qa (.lst (us ++ [t]))) := Same.put (s1.trans (s2.trans s3)) hn (s3 _ _ hq) lst_code
    exact k σ _ F (E.mono s) (Fr.same s fun a ha => .inl ha) Pin.refl⟩
/-! ### d.setdefault(k, v), v an int -/
def sSetD (i : Nat) (p : EP1) (g h : EE) : SS := fun env => (p env).bind fun l => match getAt i l env with
  | some (.dic true 0 ds) => (g env).bind fun d => (h env).bind fun y => match y with
    | .int z => if isKey 0 d && decide (ds.length < line) then (if (lookD d ds).isSome then some (.nx env) else some (.nx (setAt i l (.dic true 0 (putD d (.int z) ds)) env))) else none
    | _ => none
  | _ => none
theorem sm_setD (ha : Pt X cl a i p) (hb : Pk X cl b g) (hc : Pk X cl c h) {cpos spos : Pos} (m2 : M2 X a "setdefault" apos b c cpos) (hs : swapsWith (.Call (.Attribute a "setdefault" apos) [b, c] [] cpos) none spos.line X.env = pure false := by rfl) :
    Sm X cl io (.Expr (.Call (.Attribute a "setdefault" apos) [b, c] [] cpos) spos) (sSetD i p g h) := ⟨fun R F env fl q σ H E D k => by
  unfold sSetD at q
  obtain ⟨l, e1, q1⟩ := bind1 q
  split at q1
  rotate_left
  · cases q1
  rename_i ds hg
  obtain ⟨dk, dy, e2, e3, q2⟩ := bind2 q1
  split at q2
  rotate_left
  · cases q2
  rename_i z
  split at q2
  rotate_left
  · cases q2
  rename_i hcond
  simp only [Bool.and_eq_true, decide_eq_true_eq] at hcond
  obtain ⟨hk, hlen⟩ := hcond
  obtain ⟨v, qa, Gx, F1, F2, h1, h2, h3, h4, h5, h6, h7⟩ := E.nodeU hg rfl
  have gx := (List.nodup_cons.mp h5).2
  have gnF : ∀ x ∈ Gx, x ∈ F := fun x hx => h6 x (List.mem_cons_of_mem _ hx)
  refine wS.of (ps_expr (pe_dsetd pe_w pe_w pe_w m2) hs) ?_
  refine ha.run _ env l e1 σ H E.ev E.vd' v _ h1 h2 _ fun H1 s1 => ?_
  cases h4 with
  | dicO hq en hs' =>
    rename_i kvs
    refine ⟨qa, rfl, .inl ⟨kvs, .inl (s1 _ _ hq)⟩, ?_⟩
    refine hb.run _ env _ e2 σ H1 (E.ev.mono s1) (E.vd'.mono s1) _ fun w H2 G2 s2 o2 => ?_
    refine hc.run _ env _ e3 σ H2 (E.ev.mono (s1.trans s2)) (E.vd'.mono (s1.trans s2)) _ fun u H3 G3 s3 o3 => ?_
    cases own_int o3
    have s := (s1.trans s2).trans s3
    obtain ⟨kk, rfl, rfl⟩ := own_key0 o2 hk
    have hl : kvs.length < sizeLine := by
      have := congrArg List.length en
      simp at this
      rw [this, ← line_eq]; exact hlen
    have w2 : Own X.K cl (Gx ++ (R ++ F)) H3 (.int z) (.int z) [] := .int z
    have grow : Owns X.K cl (Gx ++ (R ++ F)) H3 (kvs.map (·.2)) (ds.map (·.2)) Gx := hs'.growS s fun x hx => by
      rcases List.mem_append.mp hx with z | z
      · exact .inl (List.mem_append_right _ (gnF x z))
      · exact .inl z
    have hlk := look_own keq_kD kk en (hs'.mono s)
    refine ⟨kvs, kk, s _ _ hq, rfl, hl, fun v' hv => ?_, fun hv => ?_⟩
    · have : (lookD (kD kk) ds).isSome = true := by
        cases hh : lookD (kD kk) ds with
        | some _ => rfl
        | none => rw [hlk.2 hh] at hv; cases hv
      rw [this, if_pos rfl] at q2
      cases q2
      exact k σ H3 F (E.mono s) (Fr.same s fun a ha => .inl ha) Pin.refl
    · have hno : (lookD (kD kk) ds).isSome = false := by
        cases hh : lookD (kD kk) ds with
        | none => rfl
        | some d =>
          obtain ⟨v', G', h8, _⟩ := hlk.1 d hh
          rw [hv] at h8
          cases h8
      rw [hno, if_neg (by decide)] at q2
      cases q2
      obtain ⟨Gn, k3, k4', k1, k2'⟩ := put_own keq_kD kk w2 en grow (.inl rfl)
      have k1 : ∀ x ∈ Gn, x ∈ Gx := fun x hx => (k1 x hx).elim id (fun z => nomatch z)
      have k2 : Gn.Nodup := k2' (by rw [List.append_nil]; exact gx)
      have k4 := k4'.weak (W' := Gn ++ (R ++ F)) fun x hx => by
        rcases List.mem_append.mp hx with z | z
        · exact List.mem_append_left _ (k1 x z)
        · exact List.mem_append_right _ z
      have U := h7 H3 Gn [] (.dK (putK kvs kk (.int z))) rfl s (by rw [List.append_nil]; exact k2) (fun x hx => .inl (k1 x hx)) (fun _ z => nomatch z)
      obtain ⟨ep, fr⟩ := U.done (.dic true 0 (putD (kD kk) (.int z) ds)) (.dicO upd_same k3 (U.kids _ _ k4))
      exact k σ _ _ ep.er fr Pin.refl⟩
end
end Tg

namespace Tg
open PySem PySem.Spec L2 RT RZ
/-! ### a second name for a part of one's own thing -/
def alRe (i j : Nat) (l : List St1) (root : D) : Fl → Option Fl
  | .nx e => (e[j]?).map fun d => .nx ((e.set j .hole).set i (setP l d root))
  | .ct e => (e[j]?).map fun d => .ct ((e.set j .hole).set i (setP l d root))
  | .bk e => (e[j]?).map fun d => .bk ((e.set j .hole).set i (setP l d root))
  | .rt v e => (e[j]?).map fun d => .rt v ((e.set j .hole).set i (setP l d root))
def sAlias (i j : Nat) (p : EP1) (t : SS) : SS := fun env => (p env).bind fun l => (getAt i l env).bind fun d => match env[i]? with
  | some root => if d.sh || decide (i = j) || decide (env.length ≤ j) then none else (t ((env.set i .hole).set j d)).bind (alRe i j l root)
  | none => none
section
variable {K : PySem.W.Frag} {cl : Cl}
/-- put back -/
theorem ER.realias {R R1 F0 F1 F2 Fb Fn : List Addr} {H0 H2 : Hp} {σ2 : St} {e : Env} {i j : Nat} {l : List St1} {root d : D} {u v : V} (E : ER K cl R1 Fn σ2 H2 e)
    (hR : ∀ a, a ∈ R1 ↔ a ∈ R ∨ a ∈ F1 ++ F2) (hRh : ∀ a ∈ F1 ++ F2, a ∉ R) (hn : (F1 ++ F2).Nodup) (hj : e[j]? = some d) (hij : i ≠ j) (hil : i < e.length)
    (sj : σ2[j]? = some (some u)) (si : σ2[i]? = some (some v))
    (k4 : ∀ (W' : List Addr) (H' : Hp) (n' : D) (G' : List Addr), Keep F0 W' (F1 ++ F2) H0 H' → Own K cl W' H' u n' G' → Own K cl W' H' v (setP l n' root) (F1 ++ (G' ++ F2)))
    (kp : ∀ a o, H0 a = some o → a ∉ Fb → ∀ [NT o], H2 a = some o) (kh : ∀ a ∈ F1 ++ F2, a ∉ Fb) (kF : ∀ a, a ∈ Fb → a ∈ F0) (kt : ∀ a vs, H0 a = some (.tup vs) → H2 a = some (.tup vs)) (kz : ∀ a o u, H0 a = some (.frz o u) → H2 a = some (.frz o u))
    (kn : ∀ a, a ∉ F0 → H0 a ≠ none → a ∉ R ∧ a ∉ Fn ∧ a ∉ F1 ++ F2) :
    ∃ F3, ER K cl R F3 σ2 H2 ((e.set j .hole).set i (setP l d root)) ∧ ∀ a ∈ F3, a ∈ Fn ∨ a ∈ F1 ++ F2 := by
  obtain ⟨o1, Gj, A, B, z1, z2, z3, z4⟩ := E.sl.zoom hj
  rw [sj] at z1
  cases z1
  have ou : Own K cl (R1 ++ Fn) H2 u d Gj := by
    rcases z3 with ⟨rfl, rfl⟩ | ⟨v2, e2, o⟩
    · exact .hole u
    · cases e2; exact o
  have nF := E.nd
  rw [z2] at nF
  have nGj : Gj.Nodup := (List.nodup_append.mp (List.nodup_append.mp nF).2.1).1
  have nAB : (A ++ B).Nodup := by
    rw [List.nodup_append] at nF ⊢
    have n2 := List.nodup_append.mp nF.2.1
    exact ⟨nF.1, n2.2.1, fun a ha b hb => nF.2.2 a ha b (List.mem_append_right _ hb)⟩
  have sub : ∀ a, a ∈ Gj ∨ a ∈ A ++ B → a ∈ Fn := fun a ha => by
    rw [z2]
    simp only [List.mem_append] at ha ⊢
    rcases ha with z | z | z <;> simp [z]
  have djA : ∀ a ∈ Gj, a ∉ A ++ B := fun a ha hb => by
    rw [List.nodup_append] at nF
    rcases List.mem_append.mp hb with z | z
    · exact nF.2.2 a z a (by simp [ha]) rfl
    · exact (List.nodup_append.mp nF.2.1).2.2 a ha a z rfl
  have hFnR : ∀ a ∈ Fn, a ∉ R ∧ a ∉ F1 ++ F2 := fun a ha => ⟨fun z => E.ap a ha ((hR a).mpr (.inl z)), fun z => E.ap a ha ((hR a).mpr (.inr z))⟩
  -- the new part
  have gN : (F1 ++ (Gj ++ F2)).Nodup := by
    have h0 : (F1 ++ ([] ++ F2)).Nodup := by simpa using hn
    exact nodup_mid h0 nGj fun x hx => .inr ⟨fun z => (hFnR x (sub x (.inl hx))).2 (List.mem_append_left _ z), fun z => (hFnR x (sub x (.inl hx))).2 (List.mem_append_right _ z)⟩
  have gmem : ∀ a, a ∈ F1 ++ (Gj ++ F2) ↔ a ∈ Gj ∨ a ∈ F1 ++ F2 := fun a => by
    simp only [List.mem_append]
    constructor
    · rintro (z | z | z) <;> simp [z]
    · rintro (z | z | z) <;> simp [z]
  have W' := (F1 ++ (Gj ++ F2)) ++ (R ++ (A ++ B))
  have wsub : ∀ a, a ∈ (F1 ++ (Gj ++ F2)) ++ (R ++ (A ++ B)) → a ∈ R1 ++ Fn := fun a ha => by
    rcases List.mem_append.mp ha with z | z
    · rcases (gmem a).mp z with y | y
      · exact List.mem_append_right _ (sub a (.inl y))
      · exact List.mem_append_left _ ((hR a).mpr (.inr y))
    · rcases List.mem_append.mp z with y | y
      · exact List.mem_append_left _ ((hR a).mpr (.inl y))
      · exact List.mem_append_right _ (sub a (.inr y))
  have ou' : Own K cl ((F1 ++ (Gj ++ F2)) ++ (R ++ (A ++ B))) H2 u d Gj := ou.weak wsub
  have kk : Keep F0 ((F1 ++ (Gj ++ F2)) ++ (R ++ (A ++ B))) (F1 ++ F2) H0 H2 := ⟨fun a ha o h => kp a o h (kh a ha), fun a o ha h => kp a o h fun z => ha (kF a z), kt, kz, fun a ha hn z => by
    obtain ⟨n1, n2, n3⟩ := kn a ha hn
    rcases List.mem_append.mp z with y | y
    · rcases (gmem a).mp y with x | x
      · exact n2 (sub a (.inl x))
      · exact n3 x
    · rcases List.mem_append.mp y with x | x
      · exact n1 x
      · exact n2 (sub a (.inr x))⟩
  have ov := k4 _ H2 d Gj kk ou'
  have slj := z4 ((F1 ++ (Gj ++ F2)) ++ (R ++ (A ++ B))) H2 (some u) .hole [] (Keep.re (K := K) fun a ha _ z => ha (wsub a z)) (.inl ⟨rfl, rfl⟩)
  rw [set_self sj] at slj
  have ep : EP K cl R (F1 ++ (Gj ++ F2)) (A ++ ([] ++ B)) σ2 H2 (e.set j .hole) := ⟨by
      rw [List.nil_append] at slj ⊢
      exact slj, by rw [List.nil_append]; exact nAB, fun a ha => (hFnR a (sub a (.inr (by simpa using ha)))).1, fun a ha => E.vd a ((hR a).mpr (.inl ha)), gN, fun a ha => by
      rw [List.nil_append]
      rcases (gmem a).mp ha with y | y
      · exact ⟨(hFnR a (sub a (.inl y))).1, djA a y⟩
      · exact ⟨hRh a y, fun z => (hFnR a (sub a (.inr z))).2 y⟩, fun a ha => by
      rcases (gmem a).mp ha with y | y
      · exact E.sl.tracked a (sub a (.inl y))
      · exact E.vd a ((hR a).mpr (.inr y)), E.tabs⟩
  obtain ⟨F3, e3, s3⟩ := ep.put (i := i) (by simpa using hil) (v := v) (d := setP l d root) (by rw [List.nil_append]; exact ov)
  rw [set_self si] at e3
  refine ⟨F3, e3, fun a ha => ?_⟩
  rcases s3 a ha with y | y
  · exact .inl (sub a (.inr (by simpa using y)))
  · rcases (gmem a).mp y with x | x
    · exact .inl (sub a (.inl x))
    · exact .inr x
end
section
variable {X : Cx} {cl : Cl} {io : List Nat} {a b c e : Expr} {f g h : EE} {pos pos2 : Pos} {i : Nat} {p : EP1} {t : SS} {sts : List Stmt}
theorem sb_alias {x : Str} (ha : Pt X cl e i p) (j : Nat) (nd : X.N.Nodup) (hb : Sb X cl (i :: j :: io) sts t) (hi : X.N[j]? = some x := by rfl) (hx : Loc X.env.scope x := by first | exact Or.inl rfl | exact Or.inr rfl)
    (hf : X.fn x = true ∨ X.env.scope.names.lookup x = some .local := by first | exact .inl rfl | exact .inr rfl | assumption) (hio : j ∉ io := by decide)
    (hs : swapsWithSole [.Name x pos2] e pos.line X.env = pure false := by rfl) (hw : swappedStores [.Name x pos2] e X.env = pure none := by rfl) (h1 : (assignEach [.Name x pos2] X.env).map (·.2) = [assign (.Name x pos2) X.env] := by rfl) :
    Sb X cl io (.Assign [.Name x pos2] e pos :: sts) (sAlias i j p t) := ⟨fun R F env fl q σ H E D k => by
  unfold sAlias at q
  obtain ⟨l, e1, q1⟩ := bind1 q
  obtain ⟨d, e2, q2⟩ := bind1 q1
  split at q2
  · rename_i root hroot
    split at q2
    · cases q2
    · rename_i hc
      have hc' : d.sh = false ∧ i ≠ j ∧ j < env.length := by
        refine ⟨?_, ?_, ?_⟩
        · cases z : d.sh with
          | false => rfl
          | true => exact absurd (by simp [z]) hc
        · intro z
          exact hc (by simp [z])
        · have : ¬ env.length ≤ j := fun z => hc (by simp [z])
          omega
      obtain ⟨hsh, hij, hjl⟩ := hc'
      obtain ⟨fl1, e3, q3⟩ := bind1 q2
      obtain ⟨o1, G0, A, B, z1, z2, z3, z4⟩ := E.sl.zoom hroot
      obtain ⟨d0, g1, g2, g3⟩ := getAt_some e2
      rw [hroot] at g1
      cases g1
      rcases z3 with ⟨z, _⟩ | ⟨v, rfl, ov⟩
      · exact absurd z g2
      · obtain ⟨u, G, F1, F2, k1, k2, k3, k4⟩ := own_path l ov g3 hsh
        have hil : i < env.length := (List.getElem?_eq_some_iff.mp hroot).1
        have hlen := E.sl.len
        -- the addresses
        have nF := E.nd
        rw [z2, k2] at nF
        have mF : ∀ a, a ∈ F ↔ a ∈ A ++ B ∨ a ∈ G ∨ a ∈ F1 ++ F2 := fun a => by
          rw [z2, k2]
          simp only [List.mem_append]
          constructor
          · rintro (z | (z | z | z) | z) <;> simp [z]
          · rintro ((z | z) | z | z | z) <;> simp [z]
        have nP : ((A ++ B) ++ (G ++ (F1 ++ F2))).Nodup := by
          refine (List.Perm.nodup_iff ?_).mp nF
          have p1 : (A ++ (F1 ++ (G ++ F2) ++ B)).Perm (A ++ (B ++ (F1 ++ (G ++ F2)))) := List.Perm.append_left A List.perm_append_comm
          have p2 : (F1 ++ (G ++ F2)).Perm (G ++ (F1 ++ F2)) := by
            rw [← List.append_assoc, ← List.append_assoc]
            exact List.Perm.append_right F2 List.perm_append_comm
          refine p1.trans ?_
          rw [List.append_assoc A B]
          exact List.Perm.append_left A (List.Perm.append_left B p2)
        have n1 := List.nodup_append.mp nP
        have n2 := List.nodup_append.mp n1.2.1
        refine wB.of (pss_cons ps_w pb_w) ?_
        refine wS.of (ps_asg pe_w pg_w hs hw h1) ?_
        refine ha.run _ env l e1 σ H E.ev E.vd' v u z1 k1 _ fun H' s1 => ?_
        refine wG.of (pg_name nd hi hx hf) ?_
        have hsame : ∀ a, a ∈ (R ++ (F1 ++ F2)) ++ (A ++ B) → a ∈ R ++ F := fun a ha => by
          simp only [List.mem_append] at ha ⊢
          rcases ha with (z | z) | z
          · exact .inl z
          · exact .inr ((mF a).mpr (.inr (.inr (by simpa using z))))
          · exact .inr ((mF a).mpr (.inl (by simpa using z)))
        have sl0 := z4 (G ++ ((R ++ (F1 ++ F2)) ++ (A ++ B))) H (some v) .hole [] (Keep.re (K := X.K) fun a ha _ z => ha (by
          rcases List.mem_append.mp z with y | y
          · exact List.mem_append_right _ ((mF a).mpr (.inr (.inl y)))
          · exact hsame a y)) (.inl ⟨rfl, rfl⟩)
        rw [set_self z1, List.nil_append] at sl0
        have ep : EP X.K cl (R ++ (F1 ++ F2)) G (A ++ B) σ H (env.set i .hole) := ⟨sl0, n1.1, fun a ha z => by
            rcases List.mem_append.mp z with y | y
            · exact E.ap a ((mF a).mpr (.inl ha)) y
            · exact n1.2.2 a ha a (List.mem_append_right _ y) rfl, fun a ha => by
            rcases List.mem_append.mp ha with y | y
            · exact E.vd a y
            · exact E.sl.tracked a ((mF a).mpr (.inr (.inr y))), n2.1, fun a ha => ⟨fun z => by
              rcases List.mem_append.mp z with y | y
              · exact E.ap a ((mF a).mpr (.inr (.inl ha))) y
              · exact n2.2.2 a ha a y rfl, fun z => n1.2.2 a z a (List.mem_append_left _ ha) rfl⟩, fun a ha => E.sl.tracked a ((mF a).mpr (.inr (.inl ha))), E.tabs⟩
        have ou : Own X.K cl (G ++ ((R ++ (F1 ++ F2)) ++ (A ++ B))) H u d G := k3.weak fun a ha => by
          rcases List.mem_append.mp ha with y | y
          · exact List.mem_append_right _ ((mF a).mpr (.inr (.inl y)))
          · exact hsame a y
        obtain ⟨Fb, eb, sb⟩ := (ep.mono s1).put (i := j) (by simpa using hjl) (ou.mono s1)
        have sbF : ∀ a ∈ Fb, a ∈ F := fun a ha => (sb a ha).elim (fun z => (mF a).mpr (.inl z)) fun z => (mF a).mpr (.inr (.inl z))
        have hidF : ∀ a ∈ F1 ++ F2, a ∉ Fb := fun a ha z => eb.ap a z (List.mem_append_right _ ha)
        have hu1 : (σ.set j (some u))[j]? = some (some u) := by rw [List.getElem?_set_self (by omega)]
        have hu2 : (σ.set j (some u))[i]? = some (some v) := by rw [List.getElem?_set_ne (fun z => hij z.symm)]; exact z1
        refine hb.run _ Fb _ fl1 e3 _ H' eb D ?_
        -- what is common to all ends
        have back : ∀ (Rx R1 : List Addr) (σ2 : St) (H2 : Hp) (Fn Gr : List Addr) (ex : Env) (dx : Tg.D), ER X.K cl R1 Fn σ2 H2 ex → ex[j]? = some dx → (∀ a, a ∈ R1 ↔ a ∈ Rx ∨ a ∈ F1 ++ F2) → (∀ a ∈ F1 ++ F2, a ∉ Rx) → (∀ a, a ∈ Rx → a ∈ R ∨ a ∈ Gr) →
            Fr Fb H' (Gr ++ Fn) H2 → Pin (i :: j :: io) (σ.set j (some u)) σ2 →
            ∃ F3, ER X.K cl Rx F3 σ2 H2 ((ex.set j .hole).set i (setP l dx root)) ∧ ∀ a ∈ F3, a ∈ Fn ∨ a ∈ F1 ++ F2 := fun Rx R1 σ2 H2 Fn Gr ex dx er hjx hR hRh hRx fr pn => by
          have hi2 := (pn i (by simp)).trans hu2
          have hil2 : i < ex.length := by
            have := (List.getElem?_eq_some_iff.mp hi2).1
            rw [← er.sl.len]; exact this
          refine er.realias (F0 := R ++ F) (Fb := Fb) (H0 := H) hR hRh (n2.2.1) hjx hij hil2 ((pn j (by simp)).trans hu1) ((pn i (by simp)).trans hu2) k4 (fun a o h hn => fr.keep a o (s1 a o h) hn) hidF (fun a ha => List.mem_append_right _ (sbF a ha)) (fun a vs h => fr.tup a vs (s1 _ _ h)) (fun a o u h => fr.frz a o u (s1 _ _ h)) (fun a ha hn => ?_)
          have hx : a ∉ Gr ++ Fn := fun z => (fr.new a z).elim (fun y => ha (List.mem_append_right _ (sbF a y))) fun y => by
            exact hn (Same.back s1 y)
          refine ⟨fun z => ?_, fun z => hx (List.mem_append_right _ z), fun z => ha (List.mem_append_right _ ((mF a).mpr (.inr (.inr z))))⟩
          rcases hRx a z with y | y
          · exact ha (List.mem_append_left _ y)
          · exact hx (List.mem_append_left _ y)
        have frB : ∀ (F' Fn : List Addr) (H2 : Hp), Fr Fb H' Fn H2 → (∀ a ∈ F', a ∈ Fn ∨ a ∈ F1 ++ F2) → Fr F H F' H2 := fun F' Fn H2 fr hsub => ⟨fun a o h hn => fr.keep a o (s1 a o h) fun z => hn (sbF a z), fun a vs h => fr.tup a vs (s1 _ _ h), fun a o u h => fr.frz a o u (s1 _ _ h), fun a h => Same.back s1 (fr.back a h), fun a ha => by
          rcases hsub a ha with z | z
          · exact (fr.new a z).elim (fun y => .inl (sbF a y)) fun y => .inr (Same.back s1 y)
          · exact .inl ((mF a).mpr (.inr (.inr z))), fun P n t => fr.tabs P n (s1.tabs P n t)⟩
        have pnB : ∀ σ2, Pin (i :: j :: io) (σ.set j (some u)) σ2 → Pin io σ σ2 := fun σ2 pn => (Pin.set hio).trans fun n hn => pn n (List.mem_cons_of_mem _ (List.mem_cons_of_mem _ hn))
        have hRiff : ∀ a, a ∈ R ++ (F1 ++ F2) ↔ a ∈ R ∨ a ∈ F1 ++ F2 := fun a => List.mem_append
        have hhR : ∀ a ∈ F1 ++ F2, a ∉ R := fun a ha => E.ap a ((mF a).mpr (.inr (.inr ha)))
        have step : ∀ (σ2 : St) (H2 : Hp) (Fn : List Addr) (ex ex' : Env), (ex[j]?).map (fun d => (ex.set j .hole).set i (setP l d root)) = some ex' → ER X.K cl (R ++ (F1 ++ F2)) Fn σ2 H2 ex → Fr Fb H' Fn H2 → Pin (i :: j :: io) (σ.set j (some u)) σ2 → ∃ F3, ER X.K cl R F3 σ2 H2 ex' ∧ Fr F H F3 H2 ∧ Pin io σ σ2 := fun σ2 H2 Fn ex ex' hm er fr pn => by
          cases hjx : ex[j]? with
          | none => rw [hjx] at hm; cases hm
          | some dx =>
            rw [hjx] at hm
            cases hm
            obtain ⟨F3, e3, s3⟩ := back R _ σ2 H2 Fn [] ex dx er hjx hRiff hhR (fun a ha => .inl ha) (by simpa using fr) pn
            exact ⟨F3, e3, frB F3 Fn H2 fr s3, pnB σ2 pn⟩
        cases fl1 with
        | nx ex =>
          cases hjx : ex[j]? with
          | none => simp [alRe, hjx] at q3
          | some dx =>
            simp [alRe, hjx] at q3
            subst q3
            intro σ2 H2 Fn er fr pn
            obtain ⟨F3, a1, a2, a3⟩ := step σ2 H2 Fn ex _ (by rw [hjx]; rfl) er fr pn
            exact k σ2 H2 F3 a1 a2 a3
        | ct ex =>
          cases hjx : ex[j]? with
          | none => simp [alRe, hjx] at q3
          | some dx =>
            simp [alRe, hjx] at q3
            subst q3
            intro σ2 H2 Fn er fr pn
            obtain ⟨F3, a1, a2, a3⟩ := step σ2 H2 Fn ex _ (by rw [hjx]; rfl) er fr pn
            exact k σ2 H2 F3 a1 a2 a3
        | bk ex =>
          cases hjx : ex[j]? with
          | none => simp [alRe, hjx] at q3
          | some dx =>
            simp [alRe, hjx] at q3
            subst q3
            intro σ2 H2 Fn er fr pn
            obtain ⟨F3, a1, a2, a3⟩ := step σ2 H2 Fn ex _ (by rw [hjx]; rfl) er fr pn
            exact k σ2 H2 F3 a1 a2 a3
        | rt dv ex =>
          cases hjx : ex[j]? with
          | none => simp [alRe, hjx] at q3
          | some dx =>
            simp [alRe, hjx] at q3
            subst q3
            intro v2 σ2 H2 Fn Gr er o2 fr pn
            obtain ⟨F3, a1, a2⟩ := back (Gr ++ R) _ σ2 H2 Fn Gr ex dx er.er2 hjx (fun a => by
              simp only [List.mem_append]
              constructor
              · rintro (z | z | z) <;> simp [z]
              · rintro ((z | z) | z) <;> simp [z]) (fun a ha z => by
              rcases List.mem_append.mp z with y | y
              · exact (er.gr a y).1 (List.mem_append_right _ ha)
              · exact hhR a ha y) (fun a ha => (List.mem_append.mp ha).elim .inr .inl) fr pn
            have sl3 := a1.sl
            rw [List.append_assoc] at sl3
            have ep3 : EP X.K cl R Gr F3 σ2 H2 _ := ⟨sl3, a1.nd, fun a ha z => a1.ap a ha (List.mem_append_right _ z), fun a ha => a1.vd a (List.mem_append_right _ ha), er.gn, fun a ha => ⟨fun z => (er.gr a ha).1 (List.mem_append_left _ z), fun z => a1.ap a z (List.mem_append_left _ ha)⟩, er.gt, a1.tabs⟩
            refine k v2 σ2 H2 F3 Gr ep3 (o2.weak fun a ha => ?_) (frB (Gr ++ F3) (Gr ++ Fn) H2 fr fun a ha => ?_) (pnB σ2 pn)
            · simp only [List.mem_append] at ha ⊢
              rcases ha with z | z | z
              · exact .inl z
              · exact .inr (.inl (.inl z))
              · rcases a2 a z with y | y
                · exact .inr (.inr y)
                · exact .inr (.inl (.inr (by simpa using y)))
            · rcases List.mem_append.mp ha with z | z
              · exact .inl (List.mem_append_left _ z)
              · exact (a2 a z).imp (fun y => List.mem_append_right _ y) id
  · cases q2⟩
end
end Tg

namespace Tg
open PySem PySem.Spec L2 RT RZ
/-! ### a second name for an item of one's own list, while the list stays in sight: the name is read as the item -/
/-- slot j's value is the item ix of the list of slot i -/
def AFL (i j : Nat) (ix : Int) (σ : St) (H : Hp) : Prop := ∃ a vs n u, σ[i]? = some (some (.ref a)) ∧ H a = some (.lst vs) ∧ ixD vs.length ix = some n ∧ vs[n]? = some u ∧ σ[j]? = some (some u)
def alE (i j : Nat) (ix : Int) (env : Env) : Option Env := match env[i]? with
  | some (.lst true xs) => (atD xs ix).map fun d => env.set j d
  | _ => none
section
variable {K : PySem.W.Frag} {cl : Cl} {H H' : Hp} {σ : St} {env env' : Env} {W R F : List Addr} {i j : Nat} {ix : Int}
theorem AFL.mono (a : AFL i j ix σ H) (e : Same H H') : AFL i j ix σ H' := by
  obtain ⟨c, vs, n, u, h1, h2, h3⟩ := a
  exact ⟨c, vs, n, u, h1, e _ _ h2, h3⟩
theorem EV.al (E : EV K cl W H σ env) (a : AFL i j ix σ H) (h : alE i j ix env = some env') : EV K cl W H σ env' := by
  unfold alE at h
  split at h
  · rename_i xs hx
    cases e : atD xs ix with
    | none => rw [e] at h; cases h
    | some d =>
      rw [e] at h
      cases h
      obtain ⟨v, F, h1, h2⟩ := E.at_ i _ hx (by intro z; cases z)
      obtain ⟨c, vs, n, u, a1, a2, a3, a4, a5⟩ := a
      rw [a1] at h1
      cases h1
      cases h2 with
      | lstO q hs =>
        rw [a2] at q
        cases q
        obtain ⟨m, e1, e2⟩ := atD_mem e
        rw [← hs.length, a3] at e1
        cases e1
        obtain ⟨w, G, F1, F2, z1, z2, z3, _⟩ := hs.zoom e2
        rw [a4] at z1
        cases z1
        have := E.set j z3
        rwa [set_self a5] at this
  · cases h
theorem ER.nodeA {xs0 : List D} {n : D} (E : ER K cl R F σ H env) (al : AFL i j ix σ H) (h0 : env[i]? = some (.lst true xs0)) (hg : atD xs0 ix = some n) :
    ∃ v u G F1 F2, σ[i]? = some (some v) ∧ σ[j]? = some (some u) ∧ F = F1 ++ (G ++ F2) ∧ Own K cl (R ++ F) H u n G ∧
      ∀ (W' : List Addr) (H' : Hp) (n' : D) (G' : List Addr), Keep (R ++ F) W' (F1 ++ F2) H H' → Own K cl W' H' u n' G' → Sl K cl W' H' σ (setAt i [.ix (.int ix)] n' env) (F1 ++ (G' ++ F2)) := by
  obtain ⟨o1, G0, A, B, h1, h2, h3, h4⟩ := E.sl.zoom h0
  rcases h3 with ⟨z, _⟩ | ⟨v, rfl, ov⟩
  · cases z
  · obtain ⟨c, vs, m, u, a1, a2, a3, a4, a5⟩ := al
    rw [h1] at a1
    cases a1
    cases ov with
    | lstO hq hs =>
      rename_i vs0 F0
      rw [hq] at a2
      cases a2
      obtain ⟨m2, e1, e2⟩ := atD_mem hg
      rw [← hs.length, a3] at e1
      cases e1
      obtain ⟨w, G, A', B', z1, z2, z3, z4⟩ := hs.zoom e2
      rw [a4] at z1
      cases z1
      refine ⟨.ref c, u, G, A ++ (c :: A'), B' ++ B, h1, a5, by rw [h2, z2]; simp, z3, fun W' H' n' G' kp o' => ?_⟩
      have q2 := z4 W' H' u n' G' ⟨fun b hb => kp.own b (by simp only [List.mem_append, List.mem_cons] at hb ⊢; rcases hb with z | z <;> simp [z]), kp.out, kp.tup, kp.frz, kp.fr⟩ o'
      rw [set_self a4] at q2
      have q3 := Own.lstO (kp.own c (by simp) _ hq) q2
      have q4 := h4 W' H' (some (.ref c)) _ _ ⟨fun b hb => kp.own b (by simp only [List.mem_append, List.mem_cons] at hb ⊢; rcases hb with z | z <;> simp [z]), kp.out, kp.tup, kp.frz, kp.fr⟩ (.inr ⟨_, rfl, q3⟩)
      rw [set_self h1] at q4
      have e3 : A ++ ((c :: (A' ++ (G' ++ B'))) ++ B) = A ++ (c :: A') ++ (G' ++ (B' ++ B)) := by simp
      rw [e3] at q4
      have hix : ixD xs0.length ix = some m := by rw [← hs.length]; exact a3
      have hst : setAt i [.ix (.int ix)] n' env = env.set i (.lst true (xs0.set m n')) := by
        unfold setAt
        rw [h0]
        show env.set i (match getS (.ix (.int ix)) (.lst true xs0) with | some e => setS (.ix (.int ix)) (setP [] n' e) (.lst true xs0) | none => .lst true xs0) = _
        have hgs : getS (.ix (.int ix)) (.lst true xs0) = some n := hg
        rw [hgs]
        show env.set i (match ixD xs0.length ix with | some j => D.lst true (xs0.set j n') | none => .lst true xs0) = _
        rw [hix]
      rw [hst]
      exact q4
theorem ER.setLA {xs0 xs : List D} (E : ER K cl R F σ H env) (al : AFL i j ix σ H) (h0 : env[i]? = some (.lst true xs0)) (hg : atD xs0 ix = some (.lst true xs)) :
    ∃ v q vs Gx F1 F2, σ[i]? = some (some v) ∧ σ[j]? = some (some (.ref q)) ∧ F = F1 ++ ((q :: Gx) ++ F2) ∧ H q = some (.lst vs) ∧ Owns K cl (R ++ F) H vs xs Gx ∧
      ∀ (H2 : Hp) (vs' : List V) (xs' : List D) (Gn : List Addr), Same H H2 → Gn.Nodup → (∀ a ∈ Gn, a ∈ Gx ∨ H a = none) → Owns K cl (Gn ++ (R ++ F)) H2 vs' xs' Gn →
        ER K cl R (F1 ++ ((q :: Gn) ++ F2)) σ (upd H2 q (.lst vs')) (setAt i [.ix (.int ix)] (.lst true xs') env) ∧ Fr F H (F1 ++ ((q :: Gn) ++ F2)) (upd H2 q (.lst vs')) := by
  obtain ⟨v, u, G, F1, F2, h1, h2, h3, h4, h5⟩ := E.nodeA al h0 hg
  cases h4 with
  | lstO hq hs =>
    rename_i q vs Gx
    refine ⟨v, q, vs, Gx, F1, F2, h1, h2, h3, hq, hs, fun H2 vs' xs' Gn s2 nd sub o2 => ?_⟩
    have nF := E.nd
    rw [h3] at nF
    have qF : q ∈ F := by rw [h3]; simp
    have qGx : q ∉ Gx := by
      have := (List.nodup_append.mp nF).2.1
      have := (List.nodup_append.mp this).1
      exact (List.nodup_cons.mp this).1
    have qn : H q ≠ none := by rw [hq]; simp
    have qGn : q ∉ Gn := fun z => (sub q z).elim qGx fun e => qn e
    have qtup : ∀ b vs0, H2 b = some (.tup vs0) → b ≠ q := fun b vs0 e z => by rw [z, s2 q _ hq] at e; cases e
    have qfrz : ∀ b o u0, H2 b = some (.frz o u0) → b ≠ q := fun b o u0 e z => by rw [z, s2 q _ hq] at e; cases e
    have gnew : ∀ a ∈ Gn, a ∉ R ∧ a ∉ F1 ∧ a ∉ F2 := fun a ha => by
      rcases sub a ha with z | z
      · have aF : a ∈ F := by rw [h3]; simp [z]
        refine ⟨E.ap a aF, fun y => ?_, fun y => ?_⟩
        · exact (List.nodup_append.mp nF).2.2 a y a (by simp [z]) rfl
        · exact (List.nodup_append.mp (List.nodup_append.mp nF).2.1).2.2 a (by simp [z]) a y rfl
      · exact ⟨fun y => E.vd a y z, fun y => E.sl.tracked a (by rw [h3]; simp [y]) z, fun y => E.sl.tracked a (by rw [h3]; simp [y]) z⟩
    have other : ∀ b ∈ F1 ++ F2, b ≠ q := fun b hb z => by
      subst z
      rcases List.mem_append.mp hb with y | y
      · exact (List.nodup_append.mp nF).2.2 b y b (by simp) rfl
      · exact (List.nodup_append.mp (List.nodup_append.mp nF).2.1).2.2 b (by simp) b y rfl
    have kp : Keep (R ++ F) (R ++ (F1 ++ ((q :: Gn) ++ F2))) (F1 ++ F2) H (upd H2 q (.lst vs')) := by
      refine ⟨fun b hb o e => ?_, fun b o hb e => ?_, fun b vs0 e => ?_, fun b o u0 e => ?_, fun b hb hn z => ?_⟩
      · intro _; rw [upd_ne (other b hb)]; exact s2 b o e
      · intro _; rw [upd_ne (fun z => hb (by rw [z]; simp [qF]))]; exact s2 b o e
      · rw [upd_ne (qtup b vs0 (s2 _ _ e))]; exact s2 _ _ e
      · rw [upd_ne (qfrz b o u0 (s2 _ _ e))]; exact s2 _ _ e
      · rw [h3] at hb
        simp only [List.mem_append, List.mem_cons, not_or] at hb z
        rcases z with z | z | (z | z) | z
        · exact hb.1 z
        · exact hb.2.1 z
        · exact hb.2.2.1.1 z
        · exact (sub b z).elim hb.2.2.1.2 hn
        · exact hb.2.2.2 z
    have on : Owns K cl (R ++ (F1 ++ ((q :: Gn) ++ F2))) (upd H2 q (.lst vs')) vs' xs' Gn := by
      refine o2.keep ⟨fun b hb o e => ?_, fun b o hb e => ?_, fun b vs0 e => ?_, fun b o u0 e => ?_, fun b hb hn z => ?_⟩
      · intro _; rw [upd_ne (fun z => qGn (by rw [← z]; exact hb))]; exact e
      · intro _; rw [upd_ne (fun z => hb (by rw [z]; simp [qF]))]; exact e
      · rw [upd_ne (qtup b vs0 e)]; exact e
      · rw [upd_ne (qfrz b o u0 e)]; exact e
      · simp only [List.mem_append, List.mem_cons, not_or] at hb z
        rw [h3] at hb
        simp only [List.mem_append, List.mem_cons, not_or] at hb
        rcases z with z | z | (z | z) | z
        · exact hb.2.1 z
        · exact hb.2.2.1 z
        · exact hb.2.2.2.1.1 z
        · exact hb.1 z
        · exact hb.2.2.2.2 z
    refine ⟨⟨h5 _ _ _ _ kp (.lstO upd_same on), ?_, ?_, fun a ha e => ?_, fun p hp => tabs_upd (s2 _ _ hq) lst_code _ _ (s2.tabs _ _ (E.tabs p hp))⟩, ⟨fun b o e hb => ?_, fun b vs0 e => ?_, fun b o u0 e => ?_, fun b e => ?_, fun b hb => ?_, fun P n t => tabs_upd (s2 _ _ hq) lst_code _ _ (s2.tabs P n t)⟩⟩
    · refine nodup_mid nF (List.nodup_cons.mpr ⟨qGn, nd⟩) fun x hx => ?_
      rcases List.mem_cons.mp hx with z | z
      · exact .inl (by rw [z]; simp)
      · exact .inr ⟨(gnew x z).2.1, (gnew x z).2.2⟩
    · intro a ha
      simp only [List.mem_append, List.mem_cons] at ha
      rcases ha with z | (z | z) | z
      · exact E.ap a (by rw [h3]; simp [z])
      · exact E.ap a (by rw [z]; exact qF)
      · exact (gnew a z).1
      · exact E.ap a (by rw [h3]; simp [z])
    · have : a ≠ q := fun z => E.ap q qF (by rw [← z]; exact ha)
      rw [upd_ne this] at e
      exact E.vd a ha (Same.back s2 e)
    · intro _; rw [upd_ne (fun z => hb (by rw [z]; exact qF))]; exact s2 b o e
    · rw [upd_ne (qtup b vs0 (s2 _ _ e))]; exact s2 _ _ e
    · rw [upd_ne (qfrz b o u0 (s2 _ _ e))]; exact s2 _ _ e
    · by_cases z : b = q
      · rw [z, upd_same] at e; cases e
      · rw [upd_ne z] at e; exact Same.back s2 e
    · simp only [List.mem_append, List.mem_cons] at hb
      rcases hb with z | (z | z) | z
      · exact .inl (by rw [h3]; simp [z])
      · exact .inl (by rw [z]; exact qF)
      · exact (sub b z).elim (fun y => .inl (by rw [h3]; simp [y])) .inr
      · exact .inl (by rw [h3]; simp [z])
end
/-- with the second name in hand -/
structure SmA (X : Cx) (cl : Cl) (io : List Nat) (i j : Nat) (ix : Int) (st : Stmt) (f : SS) : Prop where
  run : ∀ (R F : List Addr) (env : Env) (fl : Fl), f env = some fl → ∀ (σ : St) (H : Hp), ER X.K cl R F σ H env → AFL i j ix σ H → ∀ D : Ends, Pst X.K cl io R F H σ fl D → wS X st D σ H
structure SbA (X : Cx) (cl : Cl) (io : List Nat) (i j : Nat) (ix : Int) (st : List Stmt) (f : SS) : Prop where
  run : ∀ (R F : List Addr) (env : Env) (fl : Fl), f env = some fl → ∀ (σ : St) (H : Hp), ER X.K cl R F σ H env → AFL i j ix σ H → ∀ D : Ends, Pst X.K cl io R F H σ fl D → wB X st D σ H
def sIfA (i j : Nat) (ix : Int) (c : EE) (s t : SS) : SS := fun env => match (alE i j ix env).bind c with
  | some (.bl true) => s env
  | some (.bl false) => t env
  | _ => none
/-- the items of the item -/
def alL (i : Nat) (ix : Int) (env : Env) : Option (List D) := match env[i]? with
  | some (.lst true xs0) => match atD xs0 ix with
    | some (.lst true xs) => some xs
    | _ => none
  | _ => none
theorem alL_some {i : Nat} {ix : Int} {env : Env} {xs : List D} (h : alL i ix env = some xs) : ∃ xs0, env[i]? = some (.lst true xs0) ∧ atD xs0 ix = some (.lst true xs) := by
  unfold alL at h
  split at h
  · rename_i xs0 h0
    split at h
    · rename_i h1
      cases h
      exact ⟨xs0, h0, h1⟩
    · cases h
  · cases h
/-- name[k] = value, by the second name -/
def sPutA (i j : Nat) (ix : Int) (k e : EE) : SS := fun env => (e env).bind fun y => (alL i ix env).bind fun xs => (k env).bind fun d => match d with
  | .int z => match ixD xs.length z with
    | some n => some (.nx (setAt i [.ix (.int ix)] (.lst true (xs.set n y)) env))
    | none => none
  | _ => none
/-- name = list[ix], then what is done by it -/
def sOpenA (i j : Nat) (ix : Int) (p : EP1) (t : SS) : SS := fun env => (p env).bind fun l => match l with
  | [.ix (.int z)] => if z = ix ∧ i ≠ j ∧ j < env.length then (match env[i]? with
    | some (.lst true xs0) => if (atD xs0 ix).isSome then t (env.set j .hole) else none
    | _ => none) else none
  | _ => none
/-- path.append(value), the value by the second name too -/
def sAppA (i j : Nat) (ix : Int) (k : Nat) (p : EP1) (f : EE) : SS := fun env => (p env).bind fun l => match getAt k l env with
  | some (.lst true xs) => ((alE i j ix env).bind f).bind fun y => if xs.length < line then some (.nx (setAt k l (.lst true (xs ++ [y])) env)) else none
  | _ => none
section
variable {X : Cx} {cl : Cl} {io : List Nat} {a b c e : Expr} {f g h : EE} {pos apos : Pos} {st : Stmt} {sts : List Stmt} {s t : SS} {i j : Nat} {ix : Int} {p : EP1} {q : Nat}
theorem sbA_of (h : Sb X cl io sts s) : SbA X cl io i j ix sts s := ⟨fun R F env fl q σ H E _ D k => h.run R F env fl q σ H E D k⟩
theorem smA_of (h : Sm X cl io st s) : SmA X cl io i j ix st s := ⟨fun R F env fl q σ H E _ D k => h.run R F env fl q σ H E D k⟩
/-- the name's last use, then the rest -/
theorem sbA_cons (h1 : SmA X cl io i j ix st s) (h2 : Sb X cl io sts t) : SbA X cl io i j ix (st :: sts) (sSeq s t) := ⟨fun R F env fl q σ H E A D k => by
  refine wB.of (pss_cons ps_w pb_w) ?_
  unfold sSeq at q
  cases e1 : s env with
  | none => rw [e1] at q; cases q
  | some fl1 =>
    rw [e1] at q
    cases fl1 with
    | nx e' => exact h1.run R F env _ e1 σ H E A _ fun σ' H' F' er fr pn => h2.run R F' e' fl q σ' H' er D (k.step fr pn)
    | bk e' => cases q; exact h1.run R F env _ e1 σ H E A _ k
    | ct e' => cases q; exact h1.run R F env _ e1 σ H E A _ k
    | rt d e' => cases q; exact h1.run R F env _ e1 σ H E A _ k⟩
theorem sm_ifA {A B : List Stmt} (hc : Te X cl c h) (ha : SbA X cl io i j ix A s) (hb : SbA X cl io i j ix B t) : SmA X cl io i j ix (.If c A B pos) (sIfA i j ix h s t) := ⟨fun R F env fl q σ H E al D k => by
  refine wS.of (ps_if pt_w pb_w pb_w) ?_
  unfold sIfA at q
  split at q
  · rename_i e0
    obtain ⟨env', e1, e2⟩ := bind1 e0
    refine hc.run _ env' true e2 σ H (E.ev.al al e1) E.vd' _ fun H1 s1 => ?_
    rw [if_pos rfl]
    exact ha.run R F env fl q σ H1 (E.mono s1) (al.mono s1) D (k.step (Fr.same s1 fun a ha => .inl ha) Pin.refl)
  · rename_i e0
    obtain ⟨env', e1, e2⟩ := bind1 e0
    refine hc.run _ env' false e2 σ H (E.ev.al al e1) E.vd' _ fun H1 s1 => ?_
    rw [if_neg Bool.false_ne_true]
    exact hb.run R F env fl q σ H1 (E.mono s1) (al.mono s1) D (k.step (Fr.same s1 fun a ha => .inl ha) Pin.refl)
  · cases q⟩
theorem sm_appA {k : Nat} (ha : Pt X cl a k p) (he : Se X cl e f) {pos2 : Pos} (hs : swapsWith (.Call (.Attribute a "append" apos) [e] [] pos) none pos2.line X.env = pure false := by rfl)
    (hpe : ∀ {ta : TE} {t : TA}, PE X a ta → PA X [e] t → PE X (.Call (.Attribute a "append" apos) [e] [] pos) (tBM X.K "list" rAppend ta t) := by
      intro ta t h1 h2; exact pe_bm PySem.F.plainAttrs_list PySem.F.slot_list_append PySem.F.type_list_append mt_append h1 h2)
    (h1 : starEach [e] X.env = (false, eval e X.env) :: starEach [] X.env := by rfl) : SmA X cl io i j ix (.Expr (.Call (.Attribute a "append" apos) [e] [] pos) pos2) (sAppA i j ix k p f) := ⟨fun R F env fl q σ H E al D kk => by
  unfold sAppA at q
  obtain ⟨l, e1, q1⟩ := bind1 q
  split at q1
  · rename_i xs hg
    obtain ⟨y, e0, q2⟩ := bind1 q1
    obtain ⟨env2, e02, e2⟩ := bind1 e0
    split at q2
    · rename_i hz
      cases q2
      obtain ⟨v, q, vs, Gx, F1, F2, h2, h3, h4, h5, h6, h7⟩ := E.setL hg
      refine wS.of (ps_expr (hpe pe_w (pa_cons pe_w pa_nil h1)) hs) ?_
      refine ha.run _ env l e1 σ H E.ev E.vd' v _ h2 h3 _ fun H1 s1 => ?_
      refine ⟨.inl ⟨rfl, _, SqL.of (s1 _ _ h5)⟩, ?_⟩
      refine he.run _ env2 y e2 σ H1 ((E.ev.mono s1).al (al.mono s1) e02) (E.vd'.mono s1) _ fun u H2 Gy s2 o2 n2 f2 => ?_
      have s := s1.trans s2
      refine ⟨q, vs, u, rfl, rfl, s _ _ h5, by rw [h6.length, ← line_eq]; exact hz, ?_⟩
      have gx : Gx.Nodup := by
        have := E.nd
        rw [h4] at this
        exact (List.nodup_cons.mp (List.nodup_append.mp (List.nodup_append.mp this).2.1).1).2
      have gsub : ∀ a ∈ Gx, a ∈ F := fun a ha => by rw [h4]; simp [ha]
      obtain ⟨er, fr⟩ := h7 H2 (vs ++ [u]) (xs ++ [y]) (Gx ++ (Gy ++ [])) s (by
        rw [List.append_nil, List.nodup_append]
        exact ⟨gx, n2, fun a ha b hb z => E.sl.tracked a (gsub a ha) (by rw [z]; exact Same.back s1 (f2 b hb))⟩)
        (fun a ha => by
          simp only [List.append_nil, List.mem_append] at ha
          exact ha.elim .inl fun z => .inr (Same.back s1 (f2 a z)))
        (Owns.append (h6.growS s fun a ha => by
          simp only [List.append_nil, List.mem_append] at ha ⊢
          rcases ha with (z | z) | z | z
          · exact .inl (.inr (gsub a z))
          · exact .inr (Same.back s1 (f2 a z))
          · exact .inl (.inl z)
          · exact .inl (.inr z)) (.cons (o2.weak fun a ha => by
            simp only [List.append_nil, List.mem_append] at ha ⊢
            rcases ha with (z | z) | z | z
            · exact .inr (.inr (gsub a z))
            · exact .inl z
            · exact .inr (.inl z)
            · exact .inr (.inr z)) .nil))
      exact kk σ _ _ er fr Pin.refl
    · cases q2
  · cases q1⟩
theorem sm_putA (he : Se X cl e f) (ha : Pt X cl a j qNil) (hb : Pk X cl b g) {spos : Pos} (hs : swapsWithSole [.Subscript a b pos] e spos.line X.env = pure false := by rfl) (hw : swappedStores [.Subscript a b pos] e X.env = pure none := by rfl)
    (h1 : (assignEach [.Subscript a b pos] X.env).map (·.2) = [assign (.Subscript a b pos) X.env] := by rfl)
    (hpg : ∀ {ta tb : TE}, PE X a ta → PE X b tb → PG X (.Subscript a b pos) (L2.gSub ta tb rSetL) := by intro ta tb h1 h2; exact pg_sub h1 h2 set_list) : SmA X cl io i j ix (.Assign [.Subscript a b pos] e spos) (sPutA i j ix g f) := ⟨fun R F env fl q σ H E al D k => by
  unfold sPutA at q
  obtain ⟨y, e2, q0⟩ := bind1 q
  obtain ⟨xs, e1, q1⟩ := bind1 q0
  obtain ⟨d, e3, q2⟩ := bind1 q1
  obtain ⟨xs0, hx0, hg⟩ := alL_some e1
  split at q2
  · rename_i z
    split at q2
    · rename_i m hj
      cases q2
      obtain ⟨v, q, vs, Gx, F1, F2, h2, h3, h4, h5, h6, h7⟩ := E.setLA al hx0 hg
      refine wS.of (ps_asg pe_w (hpg pe_w pe_w) hs hw h1) ?_
      refine he.run _ env y e2 σ H E.ev E.vd' _ fun u H1 Gy s1 o1 n1 f1 => ?_
      refine ha.run _ env [] rfl σ H1 (E.ev.mono s1) (E.vd'.mono s1) (.ref q) (.ref q) h3 rfl _ fun H2 s2 => ?_
      refine hb.run _ env _ e3 σ H2 (E.ev.mono (s1.trans s2)) (E.vd'.mono (s1.trans s2)) _ fun w H3 G3 s3 o3 => ?_
      cases own_int o3
      have s := (s1.trans s2).trans s3
      have hlen : ixN vs.length z = some m := by rw [h6.length]; exact hj
      refine ⟨q, vs, z, m, rfl, rfl, s _ _ h5, hlen, ?_⟩
      have hjl : m < xs.length := by
        obtain ⟨_, h8, _, _⟩ := ixN_seq hlen
        rw [← h6.length]; exact h8
      obtain ⟨w0, G0, A, B, g1, g2, g3, g4⟩ := h6.zoom (List.getElem?_eq_getElem hjl)
      have gx : Gx.Nodup := by
        have := E.nd
        rw [h4] at this
        exact (List.nodup_cons.mp (List.nodup_append.mp (List.nodup_append.mp this).2.1).1).2
      have gsub : ∀ a ∈ Gx, a ∈ F := fun a ha => by rw [h4]; simp [ha]
      have ynew : ∀ a ∈ Gy, a ∉ F := fun a ha z => E.sl.tracked a z (f1 a ha)
      obtain ⟨er, fr⟩ := h7 H3 (vs.set m u) (xs.set m y) (A ++ (Gy ++ B)) s (by
        rw [g2] at gx
        exact nodup_mid gx n1 fun x hx => .inr ⟨fun z => ynew x hx (gsub x (by rw [g2]; simp [z])), fun z => ynew x hx (gsub x (by rw [g2]; simp [z]))⟩)
        (fun a ha => by
          simp only [List.mem_append] at ha
          rcases ha with z | z | z
          · exact .inl (by rw [g2]; simp [z])
          · exact .inr (f1 a z)
          · exact .inl (by rw [g2]; simp [z]))
        (g4 _ H3 u y Gy ⟨fun a ha o e => s a o e, fun a o _ e => s a o e, fun a vs0 e => s _ _ e, fun a o u0 e => s _ _ e, fun a ha hn z => by
            simp only [List.mem_append] at ha z
            rcases z with (z | z | z) | z
            · exact ha (.inr (gsub a (by rw [g2]; simp [z])))
            · exact hn (f1 a z)
            · exact ha (.inr (gsub a (by rw [g2]; simp [z])))
            · exact ha z⟩ ((o1.mono (s2.trans s3)).weak fun a ha => by
          simp only [List.mem_append] at ha ⊢
          rcases ha with (z | z | z) | z
          · exact .inr (.inr (gsub a (by rw [g2]; simp [z])))
          · exact .inl z
          · exact .inr (.inr (gsub a (by rw [g2]; simp [z])))
          · exact .inr z))
      exact k σ _ _ er fr Pin.refl
    · cases q2
  · cases q2⟩
theorem sb_openA {x : Str} {pos2 : Pos} (ha : Pt X cl e i p) (nd : X.N.Nodup) (hb : SbA X cl io i j ix sts t) (hi : X.N[j]? = some x := by rfl) (hx : Loc X.env.scope x := by first | exact Or.inl rfl | exact Or.inr rfl)
    (hf : X.fn x = true ∨ X.env.scope.names.lookup x = some .local := by first | exact .inl rfl | exact .inr rfl | assumption) (hio : j ∉ io := by decide)
    (hs : swapsWithSole [.Name x pos2] e pos.line X.env = pure false := by rfl) (hw : swappedStores [.Name x pos2] e X.env = pure none := by rfl) (h1 : (assignEach [.Name x pos2] X.env).map (·.2) = [assign (.Name x pos2) X.env] := by rfl) :
    Sb X cl io (.Assign [.Name x pos2] e pos :: sts) (sOpenA i j ix p t) := ⟨fun R F env fl q σ H E D k => by
  unfold sOpenA at q
  obtain ⟨l, e1, q1⟩ := bind1 q
  split at q1
  · split at q1
    · rename_i hc
      obtain ⟨hzx, hij, hjl⟩ := hc
      rw [hzx] at e1
      split at q1
      · rename_i xs0 h0
        split at q1
        rotate_left
        · cases q1
        rename_i hsome
        cases hat : atD xs0 ix with
        | none => rw [hat] at hsome; cases hsome
        | some d =>
          obtain ⟨v, G0, z1, z2⟩ := E.ev.at_ i _ h0 (by intro z; cases z)
          cases z2 with
          | lstO hq hs0 =>
            rename_i c vs F0
            obtain ⟨m, m1, m2⟩ := atD_mem hat
            obtain ⟨u, G, A', B', y1, _, _, _⟩ := hs0.zoom m2
            have hnd : Nd X.K cl H (.ref c) [.ix (.int ix)] u := ⟨u, ⟨c, vs, rfl, .inl (SqL.of hq), by
              show (ixD vs.length ix).bind _ = _
              rw [hs0.length, m1]
              exact y1⟩, rfl⟩
            refine wB.of (pss_cons ps_w pb_w) ?_
            refine wS.of (ps_asg pe_w pg_w hs hw h1) ?_
            refine ha.run _ env _ e1 σ H E.ev E.vd' _ u z1 hnd _ fun H' s1 => ?_
            refine wG.of (pg_name nd hi hx hf) ?_
            have hlen := E.sl.len
            obtain ⟨d0, hd0⟩ : ∃ d0, env[j]? = some d0 := ⟨_, List.getElem?_eq_getElem hjl⟩
            have E1 := E.mono s1
            obtain ⟨F', E2, sub⟩ : ∃ F', ER X.K cl R F' (σ.set j (some u)) H' (env.set j .hole) ∧ ∀ a ∈ F', a ∈ F := by
              obtain ⟨o1, G1, A1, A2, w1, w2, w3, w4⟩ := E1.sl.zoom hd0
              have ndF := E1.nd
              rw [w2] at ndF
              have sub : ∀ a ∈ A1 ++ A2, a ∈ F := fun a ha => by rw [w2]; simp only [List.mem_append] at ha ⊢; rcases ha with z | z <;> simp [z]
              have r := w4 (R ++ (A1 ++ A2)) H' (some u) .hole [] (Keep.re (K := X.K) fun a ha _ z => ha (by
                rcases List.mem_append.mp z with z | z
                · exact List.mem_append_left _ z
                · exact List.mem_append_right _ (sub a z))) (.inl ⟨rfl, rfl⟩)
              have n1 := List.nodup_append.mp ndF
              exact ⟨A1 ++ A2, ⟨r, List.nodup_append.mpr ⟨n1.1, (List.nodup_append.mp n1.2.1).2.1, fun a ha b hb => n1.2.2 a ha b (List.mem_append_right _ hb)⟩, fun a ha => E1.ap a (sub a ha), E1.vd, E1.tabs⟩, sub⟩
            refine hb.run R F' _ fl q1 _ H' E2 ⟨c, vs, m, u, by rw [List.getElem?_set_ne (fun z => hij z.symm)]; exact z1, s1 _ _ hq, by rw [hs0.length]; exact m1, y1, by rw [List.getElem?_set_self (by omega)]⟩ D ?_
            exact k.step (Fr.same s1 fun a ha => .inl (sub a ha)) (Pin.set hio)
      · cases q1
    · cases q1
  · cases q1⟩
end
end Tg

namespace Tg
/-! ## reckoning with the functions over trees -/
def tst {α : Type} (c : Option D) (a b : Option α) : Option α := match c with
  | some (.bl true) => a
  | some (.bl false) => b
  | _ => none
@[simp] theorem tst_t {α : Type} (a b : Option α) : tst (some (.bl true)) a b = a := (rfl)
@[simp] theorem tst_f {α : Type} (a b : Option α) : tst (some (.bl false)) a b = b := (rfl)
@[simp] theorem tst_dec {α : Type} (c : Prop) [Decidable c] (a b : Option α) : tst (some (.bl (decide c))) a b = if c then a else b := by
  by_cases h : c
  · rw [decide_eq_true h, if_pos h]; rfl
  · rw [decide_eq_false h, if_neg h]; rfl
@[simp] theorem tst_not {α : Type} (p : Bool) (a b : Option α) : tst (some (.bl (!p))) a b = tst (some (.bl p)) b a := by cases p <;> rfl
theorem tst_bl {α : Type} (p : Bool) (a b : Option α) : tst (some (.bl p)) a b = if p then a else b := by cases p <;> rfl
def seqF (r : Option Fl) (b : SS) : Option Fl := match r with
  | some (.nx e) => b e
  | r => r
@[simp] theorem sSeq_ev (a b : SS) (env : Env) : sSeq a b env = seqF (a env) b := (rfl)
@[simp] theorem seqF_nx (e : Env) (b : SS) : seqF (some (.nx e)) b = b e := (rfl)
@[simp] theorem seqF_rt (d : D) (e : Env) (b : SS) : seqF (some (.rt d e)) b = some (.rt d e) := (rfl)
@[simp] theorem seqF_bk (e : Env) (b : SS) : seqF (some (.bk e)) b = some (.bk e) := (rfl)
@[simp] theorem seqF_ct (e : Env) (b : SS) : seqF (some (.ct e)) b = some (.ct e) := (rfl)
@[simp] theorem seqF_none (b : SS) : seqF none b = none := (rfl)
@[simp] theorem seqF_ite {c : Prop} [Decidable c] (x y : Option Fl) (b : SS) : seqF (if c then x else y) b = if c then seqF x b else seqF y b := by split <;> rfl
@[simp] theorem sIf_ev (c : EE) (a b : SS) (env : Env) : sIf c a b env = tst (c env) (a env) (b env) := (rfl)
@[simp] theorem eAnd_ev (a b : EE) (env : Env) : eAnd a b env = tst (a env) (b env) (some (.bl false)) := (rfl)
@[simp] theorem eOr_ev (a b : EE) (env : Env) : eOr a b env = tst (a env) (some (.bl true)) (b env) := by
  unfold eOr
  cases a env with
  | none => rfl
  | some d => cases d <;> first | rfl | (rename_i b; cases b <;> rfl)
@[simp] theorem eIf_ev (c a b : EE) (env : Env) : eIf c a b env = tst (c env) (a env) (b env) := (rfl)
@[simp] theorem sNil_ev (env : Env) : sNil env = some (.nx env) := (rfl)
def varD : Option D → Option D
  | some .hole => none
  | some d => some d
  | none => none
@[simp] theorem eVar_ev (i : Nat) (env : Env) : eVar i env = varD env[i]? := (rfl)
@[simp] theorem varD_none : varD none = none := (rfl)
@[simp] theorem varD_hole : varD (some .hole) = none := (rfl)
@[simp] theorem varD_int (i : Int) : varD (some (.int i)) = some (.int i) := (rfl)
@[simp] theorem varD_bl (i : Bool) : varD (some (.bl i)) = some (.bl i) := (rfl)
@[simp] theorem varD_str (i : List Nat) : varD (some (.str i)) = some (.str i) := (rfl)
@[simp] theorem varD_non : varD (some .non) = some .non := (rfl)
@[simp] theorem varD_tup (xs : List D) : varD (some (.tup xs)) = some (.tup xs) := (rfl)
@[simp] theorem varD_lst (o : Bool) (xs : List D) : varD (some (.lst o xs)) = some (.lst o xs) := (rfl)
@[simp] theorem varD_dic (o : Bool) (k : Nat) (xs : List (D × D)) : varD (some (.dic o k xs)) = some (.dic o k xs) := (rfl)
@[simp] theorem varD_obj (o : Bool) (k : Nat) (xs : List (PySem.Str × D)) : varD (some (.obj o k xs)) = some (.obj o k xs) := (rfl)
@[simp] theorem varD_scr (i : List Int) : varD (some (.scr i)) = some (.scr i) := (rfl)
theorem varD_of {d : D} (h : d ≠ .hole) : varD (some d) = some d := by cases d <;> first | rfl | exact absurd rfl h
@[simp] theorem eC_ev (d : D) (env : Env) : eC d env = some d := (rfl)
@[simp] theorem eSh_ev (f : EE) (env : Env) : eSh f env = (f env).bind fun d => if d.sh then some d else none := (rfl)
@[simp] theorem eOp_ev (g : D → D → Option D) (a b : EE) (env : Env) : eOp g a b env = (a env).bind fun x => (b env).bind fun y => g x y := (rfl)
@[simp] theorem eUn_ev (g : D → Option D) (a : EE) (env : Env) : eUn g a env = (a env).bind g := (rfl)
@[simp] theorem eNil_ev (env : Env) : eNil env = some [] := (rfl)
@[simp] theorem eCons_ev (a : EE) (as : EA) (env : Env) : eCons a as env = (a env).bind fun x => (as env).bind fun xs => some (x :: xs) := (rfl)
@[simp] theorem eTup_ev (as : EA) (env : Env) : eTup as env = (as env).bind fun xs => some (.tup xs) := (rfl)
@[simp] theorem eLst_ev (as : EA) (env : Env) : eLst as env = (as env).bind fun xs => some (.lst true xs) := (rfl)
@[simp] theorem sRet_ev (e : EE) (env : Env) : sRet e env = (e env).bind fun d => some (.rt d env) := by
  unfold sRet; cases e env <;> rfl
@[simp] theorem sAsg_ev (e : EE) (t : TgT) (env : Env) : sAsg e t env = (e env).bind fun d => (t d env).bind fun e => some (.nx e) := by
  unfold sAsg; cases e env <;> first | rfl | (rename_i d; cases h : t d env <;> simp [h])
@[simp] theorem tgN_ev (i : Nat) (d : D) (env : Env) : tgN i d env = if i < env.length then some (env.set i d) else none := (rfl)
@[simp] theorem sPre_ev (is : List Nat) (s : SS) (env : Env) : sPre is s env = s (clrD is env) := (rfl)
@[simp] theorem clrD_nil (env : Env) : clrD [] env = env := (rfl)
@[simp] theorem clrD_cons (v : Nat) (vs : List Nat) (env : Env) : clrD (v :: vs) env = (clrD vs env).set v .hole := (rfl)
@[simp] theorem wipD_nil (env : Env) : wipD env [] = env := (rfl)
@[simp] theorem wipD_cons (v : Nat) (vs : List Nat) (env : Env) : wipD env (v :: vs) = (wipD env vs).set v .hole := (rfl)
def clrF (is : List Nat) (r : Option Fl) : Option Fl := match r with
  | some (.nx e) => some (.nx (clrD is e))
  | some (.ct e) => some (.ct (clrD is e))
  | r => r
@[simp] theorem sClrA_ev (is : List Nat) (s : SS) (env : Env) : sClrA is s env = clrF is (s env) := (rfl)
@[simp] theorem sClrB_ev (is : List Nat) (s : SS) (env : Env) : sClrB is s env = clrF is (s env) := (rfl)
@[simp] theorem clrF_nx (is : List Nat) (e : Env) : clrF is (some (.nx e)) = some (.nx (clrD is e)) := (rfl)
@[simp] theorem clrF_ct (is : List Nat) (e : Env) : clrF is (some (.ct e)) = some (.ct (clrD is e)) := (rfl)
@[simp] theorem clrF_bk (is : List Nat) (e : Env) : clrF is (some (.bk e)) = some (.bk e) := (rfl)
@[simp] theorem clrF_rt (is : List Nat) (d : D) (e : Env) : clrF is (some (.rt d e)) = some (.rt d e) := (rfl)
@[simp] theorem clrF_ite {c : Prop} [Decidable c] (is : List Nat) (x y : Option Fl) : clrF is (if c then x else y) = if c then clrF is x else clrF is y := by split <;> rfl
def fzF (i : Nat) (r : Option Fl) : Option Fl := match r with
  | some (.nx e) => (match e[i]? with
    | some d => some (.nx (e.set i d.fz))
    | none => some (.nx e))
  | r => r
@[simp] theorem sFzA_ev (i : Nat) (s : SS) (env : Env) : sFzA i s env = fzF i (s env) := by
  unfold sFzA fzF; rfl
@[simp] theorem fzF_nx (i : Nat) (e : Env) : fzF i (some (.nx e)) = (match e[i]? with
    | some d => some (.nx (e.set i d.fz))
    | none => some (.nx e)) := rfl
@[simp] theorem fzF_rt (i : Nat) (d : D) (e : Env) : fzF i (some (.rt d e)) = some (.rt d e) := (rfl)
def lentF (r : Option D) (f : EE) (env : Env) : Option D := match r with
  | some d => some d
  | none => (f (frz env)).bind fun d => if d.nf then some d else none
@[simp] theorem eLent_ev (f : EE) (env : Env) : eLent f env = lentF (f env) f env := (rfl)
@[simp] theorem lentF_some (d : D) (f : EE) (env : Env) : lentF (some d) f env = some d := (rfl)
@[simp] theorem lentF_none (f : EE) (env : Env) : lentF none f env = (f (frz env)).bind fun d => if d.nf then some d else none := (rfl)
def callF (sem : List D → Option (D × List D)) (dfl : List D) (r : Option (List D)) (fs : EA) (env : Env) : Option D := match r with
  | some ds => (sem (D.fzs ds ++ dfl)).bind fun r => some r.1
  | none => (fs (frz env)).bind fun ds => (sem (D.fzs ds ++ dfl)).bind fun r => if r.1.nf then some r.1 else none
@[simp] theorem eCallP_ev (sem : List D → Option (D × List D)) (dfl : List D) (fs : EA) (env : Env) : eCallP sem dfl fs env = callF sem dfl (fs env) fs env := by
  unfold eCallP callF
  cases fs env with
  | some ds => cases h : sem (D.fzs ds ++ dfl) <;> simp [h]
  | none => cases fs (frz env) <;> rfl
@[simp] theorem callF_some (sem : List D → Option (D × List D)) (dfl : List D) (ds : List D) (fs : EA) (env : Env) : callF sem dfl (some ds) fs env = (sem (D.fzs ds ++ dfl)).bind fun r => some r.1 := (rfl)
@[simp] theorem callF_none (sem : List D → Option (D × List D)) (dfl : List D) (fs : EA) (env : Env) : callF sem dfl none fs env = (fs (frz env)).bind fun ds => (sem (D.fzs ds ++ dfl)).bind fun r => if r.1.nf then some r.1 else none := (rfl)
@[simp] theorem frz_nil : frz [] = [] := (rfl)
@[simp] theorem frz_cons (d : D) (e : Env) : frz (d :: e) = d.fz :: frz e := (rfl)
@[simp] theorem sForI_ev (it : It) (tg : TgT) (body : SS) (env : Env) : sForI it tg body env = (it env).bind fun xs => sFor tg body xs env := (rfl)
@[simp] theorem iSeq_ev (a : EE) (env : Env) : iSeq a env = (a env).bind items := (rfl)
@[simp] theorem sFor_nil (tg : TgT) (body : SS) (env : Env) : sFor tg body [] env = some (.nx env) := (rfl)
def forK (r : Option Fl) (k : Env → Option Fl) : Option Fl := match r with
  | some (.nx env') => k env'
  | some (.ct env') => k env'
  | some (.bk env') => some (.nx env')
  | some (.rt d env') => some (.rt d env')
  | none => none
theorem sFor_cons (tg : TgT) (body : SS) (x : D) (xs : List D) (env : Env) : sFor tg body (x :: xs) env = (tg x env).bind fun e1 => forK (body e1) (sFor tg body xs) := (rfl)
/-- what a def's body tells -/
def finF (io : List Nat) (r : Option Fl) : Option (D × List D) := match r with
  | some (.rt d e) => if io.all (fun i => decide (i < e.length)) then some (d, io.map fun i => e.getD i .hole) else none
  | some (.nx e) => if io.all (fun i => decide (i < e.length)) then some (.non, io.map fun i => e.getD i .hole) else none
  | _ => none
theorem runFn_ev (np ns : Nat) (io : List Nat) (body : SS) (ds : List D) : runFn np ns io body ds = if ds.length = np then finF io (body (ds ++ List.replicate (ns - np) .hole)) else none := (rfl)
@[simp] theorem finF_rt0 (d : D) (e : Env) : finF [] (some (.rt d e)) = some (d, []) := (rfl)
@[simp] theorem finF_nx0 (e : Env) : finF [] (some (.nx e)) = some (.non, []) := (rfl)
@[simp] theorem finF_ite {c : Prop} [Decidable c] (io : List Nat) (x y : Option Fl) : finF io (if c then x else y) = if c then finF io x else finF io y := by split <;> rfl
/-! ### loops -/
theorem sFor_fold {α σ : Type} (enc : α → D) (mk : σ → Env) (step : σ → α → σ) (I : σ → Prop) {tg : TgT} {body : SS} : ∀ (xs : List α) (s : σ), (∀ s x, x ∈ xs → I s → ∃ e1, tg (enc x) (mk s) = some e1 ∧ body e1 = some (.nx (mk (step s x))) ∧ I (step s x)) → I s →
    sFor tg body (xs.map enc) (mk s) = some (.nx (mk (xs.foldl step s))) ∧ I (xs.foldl step s)
  | [], s, _, hI => ⟨rfl, hI⟩
  | x :: xs, s, h, hI => by
    obtain ⟨e1, h1, h2, h3⟩ := h s x List.mem_cons_self hI
    have ih := sFor_fold enc mk step I xs (step s x) (fun s y hy => h s y (List.mem_cons_of_mem _ hy)) h3
    refine ⟨?_, ih.2⟩
    show (tg (enc x) (mk s)).bind _ = _
    rw [h1]
    show (match body e1 with
      | some (.nx env') => sFor tg body (xs.map enc) env'
      | some (.ct env') => sFor tg body (xs.map enc) env'
      | some (.bk env') => some (.nx env')
      | some (.rt d env') => some (.rt d env')
      | none => none) = _
    rw [h2]
    exact ih.1
/-- with the place in the list told -/
theorem sFor_ix {σ : Type} (mk : σ → Env) {tg : TgT} {body : SS} (I : Nat → σ → Prop) : ∀ (xs : List D) (i : Nat) (s : σ), (∀ j s, (hj : j < xs.length) → I (i + j) s → ∃ e1 s', tg xs[j] (mk s) = some e1 ∧ body e1 = some (.nx (mk s')) ∧ I (i + j + 1) s') → I i s →
    ∃ s', sFor tg body xs (mk s) = some (.nx (mk s')) ∧ I (i + xs.length) s'
  | [], i, s, _, hI => ⟨s, rfl, hI⟩
  | x :: xs, i, s, h, hI => by
    obtain ⟨e1, s1, h1, h2, h3⟩ := h 0 s (by simp) hI
    obtain ⟨s', h4, h5⟩ := sFor_ix mk I xs (i + 1) s1 (fun j s hj hs => by
      obtain ⟨e2, s2, g1, g2, g3⟩ := h (j + 1) s (by simpa using hj) (by rwa [show i + (j + 1) = i + 1 + j by omega])
      exact ⟨e2, s2, by simpa using g1, g2, by rwa [show i + 1 + j + 1 = i + (j + 1) + 1 by omega]⟩) h3
    refine ⟨s', ?_, by rw [List.length_cons, show i + (xs.length + 1) = i + 1 + xs.length by omega]; exact h5⟩
    have h1' : tg x (mk s) = some e1 := h1
    show (tg x (mk s)).bind _ = _
    rw [h1']
    show (match body e1 with
      | some (.nx env') => sFor tg body xs env'
      | some (.ct env') => sFor tg body xs env'
      | some (.bk env') => some (.nx env')
      | some (.rt d env') => some (.rt d env')
      | none => none) = _
    rw [h2]
    exact h4
theorem compL_map {α : Type} (enc : α → D) (out : α → D) (p : α → Bool) {tg : TgT} {c e : EE} {env : Env} : ∀ (xs : List α), (∀ x ∈ xs, ∃ e1, tg (enc x) env = some e1 ∧ c e1 = some (.bl (p x)) ∧ (p x = true → e e1 = some (out x))) →
    compL tg c e env (xs.map enc) = some ((xs.filter p).map out)
  | [], _ => rfl
  | x :: xs, h => by
    obtain ⟨e1, h1, h2, h3⟩ := h x List.mem_cons_self
    have ih := compL_map enc out p xs fun y hy => h y (List.mem_cons_of_mem _ hy)
    show (tg (enc x) env).bind _ = _
    rw [h1]
    show (match c e1 with
      | some (.bl true) => (e e1).bind fun d => (compL tg c e env (xs.map enc)).map fun r => d :: r
      | some (.bl false) => compL tg c e env (xs.map enc)
      | _ => none) = _
    rw [h2]
    cases hp : p x with
    | true =>
      show ((e e1).bind fun d => (compL tg c e env (xs.map enc)).map fun r => d :: r) = _
      rw [h3 hp, ih, List.filter_cons_of_pos hp]
      rfl
    | false =>
      show compL tg c e env (xs.map enc) = _
      rw [ih, List.filter_cons_of_neg (by rw [hp]; exact Bool.false_ne_true)]
theorem filter_yes {α : Type} (xs : List α) : xs.filter (fun _ => true) = xs := by induction xs <;> simp_all
/-! ### places -/
theorem ixD_nat {n i : Nat} (h : i < n) : ixD n (i : Int) = some i := by
  unfold ixD
  rw [if_pos (by omega), if_pos (by omega)]
  simp
theorem ixD_pos {n : Nat} {i : Int} (h0 : 0 ≤ i) (h : i < n) : ixD n i = some i.toNat := by
  unfold ixD
  rw [if_pos h0, if_pos h]
theorem atD_pos {α : Type} {xs : List α} {i : Int} (h0 : 0 ≤ i) (h : i < xs.length) : atD xs i = xs[i.toNat]? := by
  unfold atD
  rw [ixD_pos h0 h]
  rfl
theorem atD_nat {α : Type} {xs : List α} {i : Nat} (h : i < xs.length) : atD xs (i : Int) = some xs[i] := by
  unfold atD
  rw [ixD_nat h]
  exact List.getElem?_eq_getElem h
/-! ### what is shared, frozen, equal -/
@[simp] theorem shs_ints (ns : List Int) : D.shs (ns.map .int) = true := by
  induction ns with
  | nil => rfl
  | cons n r ih => show (true && D.shs (r.map .int)) = true; rw [ih]; rfl
theorem shs_map {α : Type} (f : α → D) (h : ∀ x, (f x).sh = true) (xs : List α) : D.shs (xs.map f) = true := by
  induction xs with
  | nil => rfl
  | cons n r ih => show ((f n).sh && D.shs (r.map f)) = true; rw [ih, h]; rfl
theorem fzs_map {α : Type} (f : α → D) (h : ∀ x, (f x).fz = f x) (xs : List α) : D.fzs (xs.map f) = xs.map f := by
  induction xs with
  | nil => rfl
  | cons n r ih => show (f n).fz :: D.fzs (r.map f) = _; rw [ih, h]; rfl
@[simp] theorem fzs_ints (ns : List Int) : D.fzs (ns.map .int) = ns.map .int := fzs_map _ (fun _ => rfl) ns
theorem nfs_map {α : Type} (f : α → D) (h : ∀ x, (f x).nf = true) (xs : List α) : D.nfs (xs.map f) = true := by
  induction xs with
  | nil => rfl
  | cons n r ih => show ((f n).nf && D.nfs (r.map f)) = true; rw [ih, h]; rfl
@[simp] theorem nfs_ints (ns : List Int) : D.nfs (ns.map .int) = true := nfs_map _ (fun _ => rfl) ns
@[simp] theorem nfs_mi {α : Type} (f : α → Int) (xs : List α) : D.nfs (xs.map fun p => .int (f p)) = true := nfs_map _ (fun _ => rfl) xs
@[simp] theorem shs_mi {α : Type} (f : α → Int) (xs : List α) : D.shs (xs.map fun p => .int (f p)) = true := shs_map _ (fun _ => rfl) xs
@[simp] theorem fzs_mi {α : Type} (f : α → Int) (xs : List α) : D.fzs (xs.map fun p => .int (f p)) = xs.map fun p => .int (f p) := fzs_map _ (fun _ => rfl) xs
@[simp] theorem nfs_mc {α : Type} (f : α → Int) (xs : List α) : D.nfs (xs.map (D.int ∘ f)) = true := nfs_map _ (fun _ => rfl) xs
@[simp] theorem shs_mc {α : Type} (f : α → Int) (xs : List α) : D.shs (xs.map (D.int ∘ f)) = true := shs_map _ (fun _ => rfl) xs
@[simp] theorem fzs_mc {α : Type} (f : α → Int) (xs : List α) : D.fzs (xs.map (D.int ∘ f)) = xs.map (D.int ∘ f) := fzs_map _ (fun _ => rfl) xs
theorem eqoks_map {α : Type} (n : Nat) (f : α → D) (h : ∀ x, (f x).eqok n = true) (xs : List α) : D.eqoks n (xs.map f) = true := by
  induction xs with
  | nil => unfold D.eqoks; rfl
  | cons x r ih => rw [List.map_cons]; unfold D.eqoks; rw [ih, h]; rfl
theorem eqok_int (n : Nat) (i : Int) : D.eqok n (.int i) = true := by unfold D.eqok; rfl
theorem eqoks_ints (n : Nat) (ns : List Int) : D.eqoks n (ns.map .int) = true := eqoks_map n _ (eqok_int n) ns
mutual
theorem D.eqv_refl : ∀ (n : Nat) (d : D), d.eqok n = true → D.eqv d d = true
  | _, .non, _ => rfl
  | _, .bl b, _ => by show (b == b) = true; simp
  | _, .int i, _ => by show (i == i) = true; simp
  | _, .str x, _ => by show (x == x) = true; simp
  | n + 1, .lst o xs, h => D.eqvs_refl n xs h
  | n + 1, .tup xs, h => D.eqvs_refl n xs h
  | 0, .lst _ _, h => by cases h
  | 0, .tup _, h => by cases h
  | n, .scr _, h => by cases n <;> cases h
  | n, .dic _ _ _, h => by cases n <;> cases h
  | n, .obj _ _ _, h => by cases n <;> cases h
  | n, .hole, h => by cases n <;> cases h
theorem D.eqvs_refl : ∀ (n : Nat) (xs : List D), D.eqoks n xs = true → D.eqvs xs xs = true
  | _, [], _ => rfl
  | n, x :: xs, h => by
    unfold D.eqoks at h
    rw [Bool.and_eq_true] at h
    show (D.eqv x x && D.eqvs xs xs) = true
    rw [D.eqv_refl n x h.1, D.eqvs_refl n xs h.2]
    rfl
end
/-! ### the operations, by their arguments -/
@[simp] theorem gAdd_ii (i j : Int) : gAdd (.int i) (.int j) = some (.int (i + j)) := (rfl)
@[simp] theorem gAdd_ss (x y : List Nat) : gAdd (.str x) (.str y) = if x.length + y.length ≤ line then some (.str (x ++ y)) else none := (rfl)
@[simp] theorem gAdd_ll (o o' : Bool) (xs ys : List D) : gAdd (.lst o xs) (.lst o' ys) = if D.shs xs && D.shs ys && decide (xs.length + ys.length ≤ line) then some (.lst true (xs ++ ys)) else none := (rfl)
@[simp] theorem gAdd_tt (xs ys : List D) : gAdd (.tup xs) (.tup ys) = if D.shs xs && D.shs ys && decide (xs.length + ys.length ≤ line) then some (.tup (xs ++ ys)) else none := (rfl)
@[simp] theorem gSub_ii (i j : Int) : gSub (.int i) (.int j) = some (.int (i - j)) := (rfl)
@[simp] theorem gMul_li (o : Bool) (xs : List D) (k : Int) : gMul (.lst o xs) (.int k) = if D.shs xs && decide (-(2 ^ 63) ≤ k ∧ k < 2 ^ 63 ∧ xs.length * k.toNat ≤ line) then some (.lst true (List.replicate k.toNat xs).flatten) else none := (rfl)
theorem gMul_ii (i j : Int) : gMul (.int i) (.int j) = if i.natAbs.log2 + j.natAbs.log2 < 1000000 ∨ (-(2 ^ 64) < i ∧ i < 2 ^ 64) ∨ (-(2 ^ 64) < j ∧ j < 2 ^ 64) then some (.int (i * j)) else none := (rfl)
theorem gMul_l {i j : Int} (h1 : -(2 ^ 64) < i) (h2 : i < 2 ^ 64) : gMul (.int i) (.int j) = some (.int (i * j)) := by
  rw [gMul_ii, if_pos (.inr (.inl ⟨h1, h2⟩))]
theorem gMul_r {i j : Int} (h1 : -(2 ^ 64) < j) (h2 : j < 2 ^ 64) : gMul (.int i) (.int j) = some (.int (i * j)) := by
  rw [gMul_ii, if_pos (.inr (.inr ⟨h1, h2⟩))]
theorem gDiv_ii {i j : Int} (h0 : 0 < j) (h : j < 1073741824 ∨ j.natAbs.log2 < 9000) : gDiv (.int i) (.int j) = some (.int (i / j)) := by
  show (if _ then _ else _) = _
  rw [if_pos ⟨h0, h⟩]
theorem gMod_ii {i j : Int} (h0 : 0 < j) : gMod (.int i) (.int j) = some (.int (i % j)) := by
  show (if _ then _ else _) = _
  rw [if_pos h0]
@[simp] theorem gDiv_if (i j : Int) : gDiv (.int i) (.int j) = if 0 < j ∧ (j < 1073741824 ∨ j.natAbs.log2 < 9000) then some (.int (i / j)) else none := (rfl)
@[simp] theorem gMod_if (i j : Int) : gMod (.int i) (.int j) = if 0 < j then some (.int (i % j)) else none := (rfl)
@[simp] theorem gPow_if (i j : Int) : gPow (.int i) (.int j) = if 0 ≤ j ∧ j ≤ 1000000 ∧ i.natAbs < 2 ^ 64 then some (.int (i ^ j.toNat)) else none := (rfl)
@[simp] theorem gShl_if (i j : Int) : gShl (.int i) (.int j) = if 0 ≤ j ∧ j ≤ 1000000 ∧ i.natAbs < 2 ^ 64 then some (.int (i * 2 ^ j.toNat)) else none := (rfl)
@[simp] theorem gShr_if (i j : Int) : gShr (.int i) (.int j) = if 0 ≤ j then some (.int (i / 2 ^ j.toNat)) else none := (rfl)
@[simp] theorem gAndI_ii (i j : Int) : gAndI (.int i) (.int j) = some (.int (PySem.Builtin.bitAnd i j)) := (rfl)
@[simp] theorem gOrB_if (i j : Int) : gOrB (.int i) (.int j) = if 0 ≤ i ∧ 0 ≤ j then some (.int ((i.toNat ||| j.toNat : Nat) : Int)) else none := (rfl)
@[simp] theorem gXorB_if (i j : Int) : gXorB (.int i) (.int j) = if 0 ≤ i ∧ 0 ≤ j then some (.int ((i.toNat ^^^ j.toNat : Nat) : Int)) else none := (rfl)
@[simp] theorem gNeg_i (i : Int) : gNeg (.int i) = some (.int (-i)) := (rfl)
@[simp] theorem gNot_b (b : Bool) : gNot (.bl b) = some (.bl (!b)) := (rfl)
@[simp] theorem gLt_ii (i j : Int) : gLt (.int i) (.int j) = some (.bl (decide (i < j))) := (rfl)
@[simp] theorem gLe_ii (i j : Int) : gLe (.int i) (.int j) = some (.bl (decide (i ≤ j))) := (rfl)
@[simp] theorem gGt_ii (i j : Int) : gGt (.int i) (.int j) = some (.bl (decide (j < i))) := (rfl)
@[simp] theorem gGe_ii (i j : Int) : gGe (.int i) (.int j) = some (.bl (decide (j ≤ i))) := (rfl)
theorem beq_dec (i j : Int) : (i == j) = decide (i = j) := (rfl)
@[simp] theorem gEq_ii (i j : Int) : gEq (.int i) (.int j) = some (.bl (decide (i = j))) := by
  show (Option.map _ (if (D.eqok 60 (.int i) && D.eqok 60 (.int j)) = true then some (D.eqv (.int i) (.int j)) else none)) = _
  rw [eqok_int, eqok_int]
  rfl
@[simp] theorem gNe_ii (i j : Int) : gNe (.int i) (.int j) = some (.bl (!decide (i = j))) := by
  show (Option.map _ (if (D.eqok 60 (.int i) && D.eqok 60 (.int j)) = true then some (D.eqv (.int i) (.int j)) else none)) = _
  rw [eqok_int, eqok_int]
  rfl
@[simp] theorem gEq_ss (x y : List Nat) : gEq (.str x) (.str y) = some (.bl (x == y)) := (rfl)
@[simp] theorem gNe_ss (x y : List Nat) : gNe (.str x) (.str y) = some (.bl (!(x == y))) := (rfl)
theorem gEq_of {x y : D} (hx : x.eqok 60 = true) (hy : y.eqok 60 = true) : gEq x y = some (.bl (D.eqv x y)) := by
  unfold gEq eqD
  split
  · rfl
  · rw [hx, hy]; rfl
theorem gNe_of {x y : D} (hx : x.eqok 60 = true) (hy : y.eqok 60 = true) : gNe x y = some (.bl (!D.eqv x y)) := by
  unfold gNe eqD
  split
  · rfl
  · rw [hx, hy]; rfl
theorem gEq_same {x : D} (hx : x.eqok 60 = true) : gEq x x = some (.bl true) := by rw [gEq_of hx hx, D.eqv_refl 60 x hx]
theorem gNe_same {x : D} (hx : x.eqok 60 = true) : gNe x x = some (.bl false) := by rw [gNe_of hx hx, D.eqv_refl 60 x hx]; rfl
@[simp] theorem gIx_l (o : Bool) (xs : List D) (i : Int) : gIx (.lst o xs) (.int i) = atD xs i := (rfl)
@[simp] theorem gIx_t (xs : List D) (i : Int) : gIx (.tup xs) (.int i) = atD xs i := (rfl)
@[simp] theorem gIx_s (x : List Nat) (i : Int) : gIx (.str x) (.int i) = if x.length ≤ line then (atD x i).map fun c => .str [c] else none := (rfl)
@[simp] theorem gIx_c (ns : List Int) (i : Int) : gIx (.scr ns) (.int i) = (atD ns i).map .int := (rfl)
@[simp] theorem gLen_l (o : Bool) (xs : List D) : gLen (.lst o xs) = some (.int xs.length) := (rfl)
@[simp] theorem gLen_t (xs : List D) : gLen (.tup xs) = some (.int xs.length) := (rfl)
@[simp] theorem gLen_c (ns : List Int) : gLen (.scr ns) = some (.int ns.length) := (rfl)
@[simp] theorem gLen_s (x : List Nat) : gLen (.str x) = if x.length ≤ line then some (.int x.length) else none := (rfl)
@[simp] theorem gList_l (o : Bool) (xs : List D) : gList (.lst o xs) = if D.shs xs then some (.lst true xs) else none := (rfl)
@[simp] theorem gList_t (xs : List D) : gList (.tup xs) = if D.shs xs then some (.lst true xs) else none := (rfl)
@[simp] theorem gList_c (ns : List Int) : gList (.scr ns) = some (.lst true (ns.map .int)) := (rfl)
@[simp] theorem gTuple_l (o : Bool) (xs : List D) : gTuple (.lst o xs) = if D.shs xs then some (.tup xs) else none := (rfl)
@[simp] theorem gTuple_t (xs : List D) : gTuple (.tup xs) = if D.shs xs then some (.tup xs) else none := (rfl)
@[simp] theorem gInt_i (i : Int) : gInt (.int i) = some (.int i) := (rfl)
@[simp] theorem gInt_b (b : Bool) : gInt (.bl b) = some (.int (if b then 1 else 0)) := (rfl)
@[simp] theorem gSum_ints (o : Bool) (ns : List Int) : gSum (.lst o (ns.map .int)) = some (.int ns.sum) := by
  show (intsD (ns.map .int)).map _ = _
  rw [intsD_map]; rfl
@[simp] theorem gAny_bls (o : Bool) (ns : List Bool) : gAny (.lst o (ns.map .bl)) = some (.bl (ns.any id)) := by
  show (blsD (ns.map .bl)).map _ = _
  rw [blsD_map]; rfl
@[simp] theorem gAll_bls (o : Bool) (ns : List Bool) : gAll (.lst o (ns.map .bl)) = some (.bl (ns.all id)) := by
  show (blsD (ns.map .bl)).map _ = _
  rw [blsD_map]; rfl
@[simp] theorem gIsN_non : gIsN .non = some (.bl true) := (rfl)
@[simp] theorem gIsN_int (i : Int) : gIsN (.int i) = some (.bl false) := (rfl)
@[simp] theorem gIsN_tup (xs : List D) : gIsN (.tup xs) = some (.bl false) := (rfl)
@[simp] theorem gIsN_lst (o : Bool) (xs : List D) : gIsN (.lst o xs) = some (.bl false) := (rfl)
@[simp] theorem gNotN_non : gNotN .non = some (.bl false) := (rfl)
@[simp] theorem gNotN_int (i : Int) : gNotN (.int i) = some (.bl true) := (rfl)
@[simp] theorem gNotN_tup (xs : List D) : gNotN (.tup xs) = some (.bl true) := (rfl)
@[simp] theorem gNotN_lst (o : Bool) (xs : List D) : gNotN (.lst o xs) = some (.bl true) := (rfl)
@[simp] theorem eInst_ev (t : Ty) (a : EE) (env : Env) : eInst t a env = (a env).bind fun d => (isI t d).map .bl := (rfl)
@[simp] theorem isI_int (t : Ty) (i : Int) : isI t (.int i) = some (match t with | .int => true | _ => false) := by cases t <;> rfl
@[simp] theorem isI_bl (t : Ty) (i : Bool) : isI t (.bl i) = some (match t with | .int => true | .bool => true | _ => false) := by cases t <;> rfl
@[simp] theorem isI_str (t : Ty) (x : List Nat) : isI t (.str x) = some (match t with | .str => true | _ => false) := by cases t <;> rfl
@[simp] theorem isI_tup (t : Ty) (x : List D) : isI t (.tup x) = some (match t with | .tuple => true | _ => false) := by cases t <;> rfl
@[simp] theorem isI_lst (t : Ty) (o : Bool) (x : List D) : isI t (.lst o x) = some (match t with | .list => true | _ => false) := by cases t <;> rfl
@[simp] theorem isI_dic (t : Ty) (o : Bool) (x : List (D × D)) : isI t (.dic o 0 x) = some (match t with | .dict => true | _ => false) := by cases t <;> rfl
@[simp] theorem isI_dic1 (t : Ty) (o : Bool) (x : List (D × D)) : isI t (.dic o 1 x) = some (match t with | .dict => true | _ => false) := by cases t <;> rfl
@[simp] theorem isI_non (t : Ty) : isI t .non = some false := by cases t <;> rfl
@[simp] theorem items_l (o : Bool) (xs : List D) : items (.lst o xs) = if D.shs xs then some xs else none := (rfl)
@[simp] theorem items_t (xs : List D) : items (.tup xs) = if D.shs xs then some xs else none := (rfl)
@[simp] theorem items_s (x : List Nat) : items (.str x) = some (x.map fun c => .str [c]) := (rfl)
@[simp] theorem items_c (ns : List Int) : items (.scr ns) = some (ns.map .int) := (rfl)
@[simp] theorem sh_int (i : Int) : D.sh (.int i) = true := (rfl)
@[simp] theorem sh_bl (i : Bool) : D.sh (.bl i) = true := (rfl)
@[simp] theorem sh_str (i : List Nat) : D.sh (.str i) = true := (rfl)
@[simp] theorem sh_non : D.sh .non = true := (rfl)
@[simp] theorem sh_scr (i : List Int) : D.sh (.scr i) = true := (rfl)
@[simp] theorem sh_tup (i : List D) : D.sh (.tup i) = D.shs i := (rfl)
@[simp] theorem sh_lst (o : Bool) (i : List D) : D.sh (.lst o i) = !o := (rfl)
@[simp] theorem shs_nil : D.shs [] = true := (rfl)
@[simp] theorem shs_cons (x : D) (xs : List D) : D.shs (x :: xs) = (x.sh && D.shs xs) := (rfl)
@[simp] theorem fz_int (i : Int) : D.fz (.int i) = .int i := (rfl)
@[simp] theorem fz_bl (i : Bool) : D.fz (.bl i) = .bl i := (rfl)
@[simp] theorem fz_str (i : List Nat) : D.fz (.str i) = .str i := (rfl)
@[simp] theorem fz_non : D.fz .non = .non := (rfl)
@[simp] theorem fz_holeD : D.fz .hole = .hole := (rfl)
@[simp] theorem fz_scr (i : List Int) : D.fz (.scr i) = .scr i := (rfl)
@[simp] theorem fz_tup (i : List D) : D.fz (.tup i) = .tup (D.fzs i) := (rfl)
@[simp] theorem fz_lst (i : List D) : D.fz (.lst true i) = .lst false (D.fzs i) := (rfl)
@[simp] theorem fz_lstf (i : List D) : D.fz (.lst false i) = .lst false i := (rfl)
@[simp] theorem fzs_nil : D.fzs [] = [] := (rfl)
@[simp] theorem fzs_cons (x : D) (xs : List D) : D.fzs (x :: xs) = x.fz :: D.fzs xs := (rfl)
@[simp] theorem nf_int (i : Int) : D.nf (.int i) = true := (rfl)
@[simp] theorem nf_bl (i : Bool) : D.nf (.bl i) = true := (rfl)
@[simp] theorem nf_str (i : List Nat) : D.nf (.str i) = true := (rfl)
@[simp] theorem nf_non : D.nf .non = true := (rfl)
@[simp] theorem nf_hole : D.nf .hole = true := (rfl)
@[simp] theorem nf_tup (i : List D) : D.nf (.tup i) = D.nfs i := (rfl)
@[simp] theorem nf_lst (o : Bool) (i : List D) : D.nf (.lst o i) = (o && D.nfs i) := (rfl)
@[simp] theorem nfs_nil : D.nfs [] = true := (rfl)
@[simp] theorem nfs_cons (x : D) (xs : List D) : D.nfs (x :: xs) = (x.nf && D.nfs xs) := (rfl)
@[simp] theorem eCut_ev (a : EE) (lo hi : Env → Option (Option Int)) (env : Env) : eCut a lo hi env = (a env).bind fun x => (lo env).bind fun l => (hi env).bind fun h => gCut l h x := (rfl)
@[simp] theorem pNone_ev (env : Env) : pNone env = some none := (rfl)
@[simp] theorem pSome_ev (a : EE) (env : Env) : pSome a env = ((a env).bind gPart).map some := (rfl)
@[simp] theorem gPart_i (i : Int) : gPart (.int i) = some i := (rfl)
@[simp] theorem gCut_l (lo hi : Option Int) (o : Bool) (xs : List D) : gCut lo hi (.lst o xs) = if D.shs xs then some (.lst true (cutD xs lo hi)) else none := (rfl)
@[simp] theorem gCut_c (lo hi : Option Int) (ns : List Int) : gCut lo hi (.scr ns) = some (.lst true ((cutD ns lo hi).map .int)) := (rfl)
@[simp] theorem gCut_s (lo hi : Option Int) (x : List Nat) : gCut lo hi (.str x) = if x.length ≤ line then some (.str (cutD x lo hi)) else none := (rfl)
@[simp] theorem gCut_t (lo hi : Option Int) (xs : List D) : gCut lo hi (.tup xs) = if D.shs xs then some (.tup (cutD xs lo hi)) else none := (rfl)
@[simp] theorem tgX_t (ts : List TgT) (xs : List D) (env : Env) : tgX ts (.tup xs) env = tgs ts xs env := (rfl)
@[simp] theorem tgX_l (ts : List TgT) (o : Bool) (xs : List D) (env : Env) : tgX ts (.lst o xs) env = tgs ts xs env := (rfl)
@[simp] theorem tgU_t (ts : List TgT) (xs : List D) (env : Env) : tgU ts (.tup xs) env = tgs ts xs env := (rfl)
@[simp] theorem tgs_nil (env : Env) : tgs [] [] env = some env := (rfl)
@[simp] theorem tgs_cons (t : TgT) (ts : List TgT) (d : D) (ds : List D) (env : Env) : tgs (t :: ts) (d :: ds) env = (t d env).bind (tgs ts ds) := (rfl)
@[simp] theorem eCompW_ev (vs : List Nat) (it : It) (tg : TgT) (c e : EE) (env : Env) : eCompW vs it tg c e env = (it env).bind fun xs => if xs.length < line then (compL tg c e (wipD env vs) xs).map (.lst true) else none := (rfl)
@[simp] theorem cYes_ev (env : Env) : cYes env = some (.bl true) := (rfl)
theorem compL_all {α : Type} (enc : α → D) (out : α → D) {tg : TgT} {e : EE} {env : Env} (xs : List α) (h : ∀ x ∈ xs, ∃ e1, tg (enc x) env = some e1 ∧ e e1 = some (out x)) : compL tg cYes e env (xs.map enc) = some (xs.map out) := by
  have := compL_map enc out (fun _ => true) (tg := tg) (c := cYes) (e := e) (env := env) xs fun x hx => by
    obtain ⟨e1, h1, h2⟩ := h x hx
    exact ⟨e1, h1, rfl, fun _ => h2⟩
  rwa [filter_yes] at this
/-- each element some value of a kind -/
theorem compL_ex {α : Type} (P : α → Prop) (out : α → D) {tg : TgT} {e : EE} {env : Env} : ∀ (xs : List D), (∀ x ∈ xs, ∃ e1 y, tg x env = some e1 ∧ e e1 = some (out y) ∧ P y) → ∃ ys : List α, compL tg cYes e env xs = some (ys.map out) ∧ ys.length = xs.length ∧ ∀ y ∈ ys, P y
  | [], _ => ⟨[], rfl, rfl, fun _ h => nomatch h⟩
  | x :: xs, h => by
    obtain ⟨e1, y, h1, h2, h3⟩ := h x List.mem_cons_self
    obtain ⟨ys, h4, h5, h6⟩ := compL_ex P out xs fun z hz => h z (List.mem_cons_of_mem _ hz)
    refine ⟨y :: ys, ?_, by simp [h5], fun z hz => ?_⟩
    · show (tg x env).bind _ = _
      rw [h1]
      show ((e e1).bind fun d => (compL tg cYes e env xs).map fun r => d :: r) = _
      rw [h2, h4]
      rfl
    · rcases List.mem_cons.mp hz with z1 | z1
      · rw [z1]; exact h3
      · exact h6 z z1
@[simp] theorem iRng_ev (a : EE) (env : Env) : iRng a env = (match a env with
  | some (.int n) => if small62 n then some ((List.range n.toNat).map fun (k : Nat) => .int (k : Int)) else none
  | _ => none) := (rfl)
@[simp] theorem iRng2_ev (a b : EE) (env : Env) : iRng2 a b env = (match a env, b env with
  | some (.int m), some (.int n) => if small62 m && small62 n then some ((List.range (n - m).toNat).map fun (k : Nat) => .int (m + (k : Int))) else none
  | _, _ => none) := (rfl)
theorem small_nat {n : Nat} (h : n < 1000000) : small62 (n : Int) = true := by
  unfold small62
  simp
  omega
@[simp] theorem iEnum_ev (a : EE) (env : Env) : iEnum a env = (a env).bind fun d => match d with
  | .lst _ xs => if D.shs xs then some ((List.range xs.length).zipWith (fun (k : Nat) x => .tup [.int (k : Int), x]) xs) else none
  | _ => none := (rfl)
@[simp] theorem iRevD_ev (a : EE) (env : Env) : iRevD a env = (a env).bind fun d => match d with
  | .lst _ xs => if D.shs xs then some xs.reverse else none
  | .tup xs => if D.shs xs then some xs.reverse else none
  | _ => none := (rfl)
/-! ### lists changed -/
@[simp] theorem qNil_ev (env : Env) : qNil env = some [] := (rfl)
@[simp] theorem getAt_nil (i : Nat) (env : Env) : getAt i [] env = varD env[i]? := by
  unfold getAt
  cases env[i]? with
  | none => rfl
  | some d => cases d <;> rfl
@[simp] theorem setAt_nil (i : Nat) (d : D) (env : Env) : setAt i [] d env = (match env[i]? with
  | some _ => env.set i d
  | none => env) := by
  unfold setAt
  cases env[i]? <;> rfl
@[simp] theorem sApp_ev (i : Nat) (p : EP1) (e : EE) (env : Env) : sApp i p e env = (p env).bind fun l => match getAt i l env with
  | some (.lst true xs) => (e env).bind fun y => if xs.length < line then some (.nx (setAt i l (.lst true (xs ++ [y])) env)) else none
  | _ => none := (rfl)
@[simp] theorem sPut_ev (i : Nat) (p : EP1) (k e : EE) (env : Env) : sPut i p k e env = (e env).bind fun y => (p env).bind fun l => match getAt i l env with
  | some (.lst true xs) => (k env).bind fun d => match d with
    | .int z => match ixD xs.length z with
      | some j => some (.nx (setAt i l (.lst true (xs.set j y)) env))
      | none => none
    | _ => none
  | _ => none := (rfl)
@[simp] theorem sAugN_ev (i : Nat) (e : EE) (env : Env) : sAugN i e env = (match env[i]? with
  | some (.int a) => (match e env with
    | some (.int b) => some (.nx (env.set i (.int (a + b))))
    | _ => none)
  | _ => none) := (rfl)
@[simp] theorem sAugS_ev (i : Nat) (p : EP1) (k e : EE) (env : Env) : sAugS i p k e env = (p env).bind fun l => match getAt i l env with
  | some (.lst true xs) => (match k env with
    | some (.int z) => (ixD xs.length z).bind fun j => (match xs[j]? with
      | some (.int a) => (match e env with
        | some (.int b) => some (.nx (setAt i l (.lst true (xs.set j (.int (a + b)))) env))
        | _ => none)
      | _ => none)
    | _ => none)
  | _ => none := (rfl)
@[simp] theorem sRetM_ev (f : EM) (env : Env) : sRetM f env = (f env).map fun x => .rt x.1 x.2 := (rfl)
@[simp] theorem sAsgM_ev (f : EM) (t : TgT) (env : Env) : sAsgM f t env = (f env).bind fun x => (t x.1 x.2).map .nx := (rfl)
@[simp] theorem mMv_ev (i : Nat) (p : EP1) (env : Env) : mMv i p env = (p env).bind fun l => (getAt i l env).bind fun d => if d.sh then some (d, env) else some (d, setAt i l .hole env) := (rfl)
@[simp] theorem eChain_ev (g h : D → D → Option D) (a b c : EE) (env : Env) : eChain g h a b c env = (a env).bind fun x => (b env).bind fun y => tst (g x y) ((c env).bind fun z => h y z) (some (.bl false)) := (rfl)
@[simp] theorem gMin_ii (i j : Int) : gMin (.int i) (.int j) = some (.int (if j < i then j else i)) := (rfl)
@[simp] theorem gMax_ii (i j : Int) : gMax (.int i) (.int j) = some (.int (if j > i then j else i)) := (rfl)
@[simp] theorem sClr_ev (i : Nat) (p : EP1) (env : Env) : sClr i p env = (p env).bind fun l => match getAt i l env with
  | some (.lst true xs) => some (.nx (setAt i l (.lst true []) env))
  | _ => none := (rfl)
end Tg

namespace Tg
/-! ## more of the functions over trees, by their arguments -/
@[simp] theorem eFd_ev (a : EE) (c : Nat) (f : PySem.Str) (env : Env) : eFd a c f env = (a env).bind fun d => getS (.fd c f) d := (rfl)
@[simp] theorem getS_il (o : Bool) (i : Int) (xs : List D) : getS (.ix (.int i)) (.lst o xs) = atD xs i := (rfl)
@[simp] theorem getS_it (i : Int) (xs : List D) : getS (.ix (.int i)) (.tup xs) = atD xs i := (rfl)
@[simp] theorem getS_fd (c c' : Nat) (f : PySem.Str) (o : Bool) (fs : List (PySem.Str × D)) : getS (.fd c f) (.obj o c' fs) = if c = c' then lookF f fs else none := (rfl)
@[simp] theorem getP_nil (d : D) : getP [] d = some d := (rfl)
@[simp] theorem getP_cons (s : St1) (r : List St1) (d : D) : getP (s :: r) d = (getS s d).bind (getP r) := (rfl)
@[simp] theorem setP_nil (n d : D) : setP [] n d = n := (rfl)
@[simp] theorem setP_cons (s : St1) (r : List St1) (n d : D) : setP (s :: r) n d = (match getS s d with
  | some e => setS s (setP r n e) d
  | none => d) := (rfl)
@[simp] theorem setS_il (i : Int) (n : D) (o : Bool) (xs : List D) : setS (.ix (.int i)) n (.lst o xs) = (match ixD xs.length i with
  | some j => .lst o (xs.set j n)
  | none => .lst o xs) := (rfl)
@[simp] theorem setS_fd (c c' : Nat) (f : PySem.Str) (n : D) (o : Bool) (fs : List (PySem.Str × D)) : setS (.fd c f) n (.obj o c' fs) = if c = c' then .obj o c' (putFD f n fs) else .obj o c' fs := (rfl)
@[simp] theorem qIx_ev (p : EP1) (a : EE) (env : Env) : qIx p a env = (p env).bind fun l => (a env).bind fun d => some (l ++ [.ix d]) := (rfl)
@[simp] theorem qFd_ev (p : EP1) (c : Nat) (f : PySem.Str) (env : Env) : qFd p c f env = (p env).bind fun l => some (l ++ [.fd c f]) := (rfl)
theorem getAt_v (i : Nat) (l : List St1) (env : Env) : getAt i l env = (varD env[i]?).bind (getP l) := by
  unfold getAt varD
  cases h : env[i]? with
  | none => rfl
  | some d => cases d <;> rfl
theorem setAt_v (i : Nat) (l : List St1) (n : D) (env : Env) : setAt i l n env = (match env[i]? with
  | some d => env.set i (setP l n d)
  | none => env) := (rfl)
@[simp] theorem sSetF_ev (i : Nat) (p : EP1) (c : Nat) (f : PySem.Str) (e : EE) (env : Env) : sSetF i p c f e env = (e env).bind fun y => (p env).bind fun l => match getAt i l env with
  | some (.obj true c' fs) => if c = c' ∧ fs.length < 1000 then some (.nx (setAt i l (.obj true c' (putFD f y fs)) env)) else none
  | _ => none := (rfl)
@[simp] theorem sh_obj (o : Bool) (c : Nat) (fs : List (PySem.Str × D)) : D.sh (.obj o c fs) = !o := (rfl)
@[simp] theorem sh_dic (o : Bool) (c : Nat) (fs : List (D × D)) : D.sh (.dic o c fs) = !o := (rfl)
@[simp] theorem sh_holeD : D.sh .hole = true := (rfl)
@[simp] theorem fz_obj (c : Nat) (fs : List (PySem.Str × D)) : D.fz (.obj true c fs) = .obj false c (D.fzf fs) := (rfl)
@[simp] theorem fz_objf (c : Nat) (fs : List (PySem.Str × D)) : D.fz (.obj false c fs) = .obj false c fs := (rfl)
@[simp] theorem fzf_nil : D.fzf [] = [] := (rfl)
@[simp] theorem fzf_cons (k : PySem.Str) (x : D) (xs : List (PySem.Str × D)) : D.fzf ((k, x) :: xs) = (k, x.fz) :: D.fzf xs := (rfl)
@[simp] theorem nf_obj (o : Bool) (c : Nat) (fs : List (PySem.Str × D)) : D.nf (.obj o c fs) = (o && D.nff fs) := (rfl)
@[simp] theorem nff_nil : D.nff [] = true := (rfl)
@[simp] theorem nff_cons (k : PySem.Str) (x : D) (xs : List (PySem.Str × D)) : D.nff ((k, x) :: xs) = (x.nf && D.nff xs) := (rfl)
@[simp] theorem mE_ev (f : EE) (env : Env) : mE f env = (f env).bind fun d => some (d, env) := by
  unfold mE; cases f env <;> rfl
@[simp] theorem amNil_ev (env : Env) : amNil env = some ([], env) := (rfl)
@[simp] theorem amCons_ev (m : EM) (ms : EAM) (env : Env) : amCons m ms env = (m env).bind fun x => (ms x.2).bind fun y => some (x.1 :: y.1, y.2) := (rfl)
@[simp] theorem mTup_ev (ms : EAM) (env : Env) : mTup ms env = (ms env).bind fun y => if y.1.length ≤ 1000 then some (.tup y.1, y.2) else none := (rfl)
@[simp] theorem mLst_ev (ms : EAM) (env : Env) : mLst ms env = (ms env).bind fun y => if y.1.length ≤ 1000 then some (.lst true y.1, y.2) else none := (rfl)
@[simp] theorem sDropM_ev (m : EM) (env : Env) : sDropM m env = (m env).bind fun x => some (.nx x.2) := by
  unfold sDropM; cases m env <;> rfl
@[simp] theorem sDrop_ev (f : EE) (env : Env) : sDrop f env = (f env).bind fun _ => some (.nx env) := by
  unfold sDrop; cases f env <;> rfl
theorem mPop_v (i : Nat) (p : EP1) (env : Env) : mPop i p env = (p env).bind fun l => (match getAt i l env with
  | some (.lst true xs) => xs.getLast?.map fun y => (y, setAt i l (.lst true xs.dropLast) env)
  | _ => none) := (rfl)
theorem mIx_v (m : EM) (g : EE) (env : Env) : mIx m g env = (m env).bind fun x => (match x.1 with
  | .tup xs => if D.shs xs then (g x.2).bind fun y => (match y with
    | .int z => (atD xs z).map fun w => (w, x.2)
    | _ => none)
    else none
  | _ => none) := (rfl)
def io1 (f : D → Env) (r : D × List D) : Option (D × Env) := match r.2 with
  | [n'] => some (r.1, f n')
  | _ => none
@[simp] theorem io1_one (f : D → Env) (d n : D) : io1 f (d, [n]) = some (d, f n) := (rfl)
def io2 (f : D → Env) (r : D × List D) : Option (D × Env) := match r.2 with
  | [n'] => if r.1.nf && n'.nf then some (r.1, f n') else none
  | _ => none
@[simp] theorem io2_one (f : D → Env) (d n : D) : io2 f (d, [n]) = if d.nf && n.nf then some (d, f n) else none := (rfl)
theorem mIO_v (sem : List D → Option (D × List D)) (dfl : List D) (i : Nat) (p : EP1) (q : Nat) (cm : Option (Nat × PySem.Str)) (fs : EA) (env : Env) : mIO sem dfl i p q cm fs env = (p env).bind fun l => (getAt i l env).bind fun n =>
  if n.sh || !isObj cm n then none else (match fs env with
    | some ds => (sem ((D.fzs ds).insertIdx q n ++ dfl)).bind (io1 fun n' => setAt i l n' env)
    | none => (fs ((frz env).set i .hole)).bind fun ds => (sem ((D.fzs ds).insertIdx q n ++ dfl)).bind (io2 fun n' => setAt i l n' env)) := (rfl)
theorem mIOV_v (sem : List D → Option (D × List D)) (dfl : List D) (i c : Nat) (m : PySem.Str) (ms : EAM) (env : Env) : mIOV sem dfl i c m ms env = (match env[i]? with
  | some n => if n.sh || !isObj (some (c, m)) n then none else (ms (env.set i .hole)).bind fun x => if i < x.2.length then (sem (n :: (D.fzs x.1 ++ dfl))).bind (io1 fun n' => x.2.set i n') else none
  | none => none) := (rfl)
@[simp] theorem eObj_ev (c : Nat) (m : PySem.Str) (f : EE) (env : Env) : eObj c m f env = (f env).bind fun d => (match d with
  | .obj o c' fs => if c = c' ∧ lookF m fs = none then some (.obj o c' fs) else none
  | _ => none) := (rfl)
theorem eMake_v (c : Nat) (sem : List D → Option (D × List D)) (dfl : List D) (fs : EA) (env : Env) : eMake c sem dfl fs env = (match fs env with
  | some ds => (sem (.obj true c [] :: (D.fzs ds ++ dfl))).bind (mkR c)
  | none => (fs (frz env)).bind fun ds => (sem (.obj true c [] :: (D.fzs ds ++ dfl))).bind fun r => (mkR c r).bind fun d => if d.nf then some d else none) := (rfl)
@[simp] theorem mkR_one (c : Nat) (fs : List (PySem.Str × D)) : mkR c (.non, [.obj true c fs]) = some (.obj true c fs) := by
  unfold mkR; simp
@[simp] theorem gListRev_l (o : Bool) (xs : List D) : gListRev (.lst o xs) = if D.shs xs then some (.lst true xs.reverse) else none := (rfl)
@[simp] theorem gBits_i (i : Int) : gBits (.int i) = some (.int (bitsI i)) := (rfl)
theorem gIn_t {x : D} {xs : List D} (h : flat x = true) (h2 : xs.all flat = true) : gIn x (.tup xs) = some (.bl (xs.any fun y => D.eqv y x)) := by
  unfold gIn inD
  split
  · rename_i e
    cases e
  · rename_i e
    cases e
    rw [h, h2]; rfl
  · rename_i e
    cases e
  · rename_i h1 h3 h4
    first | exact absurd rfl (h4 xs) | exact absurd rfl (h3 xs) | exact absurd rfl (h1 xs)
/-! ### loops with while -/
def whK (r : Option Fl) (k : Env → Option Fl) : Option Fl := match r with
  | some (.nx e) => k e
  | some (.ct e) => k e
  | some (.bk e) => some (.nx e)
  | some (.rt d e) => some (.rt d e)
  | none => none
@[simp] theorem whK_nx (e : Env) (k : Env → Option Fl) : whK (some (.nx e)) k = k e := (rfl)
@[simp] theorem whK_ct (e : Env) (k : Env → Option Fl) : whK (some (.ct e)) k = k e := (rfl)
@[simp] theorem whK_bk (e : Env) (k : Env → Option Fl) : whK (some (.bk e)) k = some (.nx e) := (rfl)
@[simp] theorem whK_rt (d : D) (e : Env) (k : Env → Option Fl) : whK (some (.rt d e)) k = some (.rt d e) := (rfl)
theorem sWhile_succ (c : EE) (body : SS) (n : Nat) (env : Env) : sWhile c body (n + 1) env = tst (c env) (whK (body env) (sWhile c body n)) (some (Fl.nx env)) := by
  show (match c env with
    | some (.bl false) => (some (Fl.nx env) : Option Fl)
    | some (.bl true) => (match body env with
      | some (.nx env') => sWhile c body n env'
      | some (.ct env') => sWhile c body n env'
      | some (.bk env') => some (.nx env')
      | some (.rt d env') => some (.rt d env')
      | none => none)
    | _ => none) = _
  cases c env with
  | none => rfl
  | some d => cases d <;> first | rfl | (rename_i b; cases b <;> rfl)
theorem sWh_any {c : EE} {body : SS} {env : Env} {r : Option Fl} (m : Nat) (hm : m ≤ 1000000000) (h : ∀ n, m ≤ n → sWhile c body (n + 1) env = r) : sWh c body env = r := by
  show sWhile c body fuel env = r
  have : fuel = (fuel - 1) + 1 := by unfold fuel; rfl
  rw [this]
  exact h _ (by unfold fuel; omega)
theorem finF_nx (io : List Nat) (e : Env) : finF io (some (.nx e)) = if io.all (fun i => decide (i < e.length)) then some (.non, io.map fun i => e.getD i .hole) else none := (rfl)
theorem finF_rt (io : List Nat) (d : D) (e : Env) : finF io (some (.rt d e)) = if io.all (fun i => decide (i < e.length)) then some (d, io.map fun i => e.getD i .hole) else none := (rfl)
@[simp] theorem finF_nx1 (i : Nat) (e : Env) : finF [i] (some (.nx e)) = if i < e.length then some (.non, [e.getD i .hole]) else none := by
  rw [finF_nx]; simp
@[simp] theorem finF_rt1 (i : Nat) (d : D) (e : Env) : finF [i] (some (.rt d e)) = if i < e.length then some (d, [e.getD i .hole]) else none := by
  rw [finF_rt]; simp
/-! ### written places -/
@[simp] theorem atD_0 {α : Type} (a : α) (r : List α) : atD (a :: r) 0 = some a := by
  have := atD_nat (xs := a :: r) (i := 0) (by simp)
  simpa using this
@[simp] theorem atD_1 {α : Type} (a b : α) (r : List α) : atD (a :: b :: r) 1 = some b := by
  have := atD_nat (xs := a :: b :: r) (i := 1) (by simp)
  simpa using this
@[simp] theorem atD_2 {α : Type} (a b c : α) (r : List α) : atD (a :: b :: c :: r) 2 = some c := by
  have := atD_nat (xs := a :: b :: c :: r) (i := 2) (by simp)
  simpa using this
@[simp] theorem atD_3 {α : Type} (a b c d : α) (r : List α) : atD (a :: b :: c :: d :: r) 3 = some d := by
  have := atD_nat (xs := a :: b :: c :: d :: r) (i := 3) (by simp)
  simpa using this
@[simp] theorem atD_4 {α : Type} (a b c d e : α) (r : List α) : atD (a :: b :: c :: d :: e :: r) 4 = some e := by
  have := atD_nat (xs := a :: b :: c :: d :: e :: r) (i := 4) (by simp)
  simpa using this
@[simp] theorem atD_5 {α : Type} (a b c d e f : α) (r : List α) : atD (a :: b :: c :: d :: e :: f :: r) 5 = some f := by
  have := atD_nat (xs := a :: b :: c :: d :: e :: f :: r) (i := 5) (by simp)
  simpa using this
@[simp] theorem atD_6 {α : Type} (a b c d e f g : α) (r : List α) : atD (a :: b :: c :: d :: e :: f :: g :: r) 6 = some g := by
  have := atD_nat (xs := a :: b :: c :: d :: e :: f :: g :: r) (i := 6) (by simp)
  simpa using this
@[simp] theorem atD_7 {α : Type} (a b c d e f g h : α) (r : List α) : atD (a :: b :: c :: d :: e :: f :: g :: h :: r) 7 = some h := by
  have := atD_nat (xs := a :: b :: c :: d :: e :: f :: g :: h :: r) (i := 7) (by simp)
  simpa using this
@[simp] theorem atD_8 {α : Type} (a b c d e f g h i : α) (r : List α) : atD (a :: b :: c :: d :: e :: f :: g :: h :: i :: r) 8 = some i := by
  have := atD_nat (xs := a :: b :: c :: d :: e :: f :: g :: h :: i :: r) (i := 8) (by simp)
  simpa using this
@[simp] theorem atD_9 {α : Type} (a b c d e f g h i j : α) (r : List α) : atD (a :: b :: c :: d :: e :: f :: g :: h :: i :: j :: r) 9 = some j := by
  have := atD_nat (xs := a :: b :: c :: d :: e :: f :: g :: h :: i :: j :: r) (i := 9) (by simp)
  simpa using this
theorem atD_last {α : Type} (xs : List α) (x : α) : atD (xs ++ [x]) (-1) = some x := by
  unfold atD ixD
  rw [if_neg (by omega), if_pos (by rw [List.length_append]; simp; omega)]
  have e : ((-1 : Int) + ((xs ++ [x]).length : Nat)).toNat = xs.length := by rw [List.length_append]; simp; omega
  show (xs ++ [x])[((-1 : Int) + ((xs ++ [x]).length : Nat)).toNat]? = _
  rw [e]
  simp
@[simp] theorem atD_n1 {α : Type} (a : α) : atD [a] (-1) = some a := atD_last [] a
@[simp] theorem atD_n2 {α : Type} (a b : α) : atD [a, b] (-1) = some b := atD_last [a] b
@[simp] theorem atD_n3 {α : Type} (a b c : α) : atD [a, b, c] (-1) = some c := atD_last [a, b] c
@[simp] theorem atD_n4 {α : Type} (a b c d : α) : atD [a, b, c, d] (-1) = some d := atD_last [a, b, c] d
@[simp] theorem atD_n5 {α : Type} (a b c d e : α) : atD [a, b, c, d, e] (-1) = some e := atD_last [a, b, c, d] e
@[simp] theorem atD_n6 {α : Type} (a b c d e f : α) : atD [a, b, c, d, e, f] (-1) = some f := atD_last [a, b, c, d, e] f
@[simp] theorem atD_n7 {α : Type} (a b c d e f g : α) : atD [a, b, c, d, e, f, g] (-1) = some g := atD_last [a, b, c, d, e, f] g
@[simp] theorem atD_n8 {α : Type} (a b c d e f g h : α) : atD [a, b, c, d, e, f, g, h] (-1) = some h := atD_last [a, b, c, d, e, f, g] h
@[simp] theorem atD_n9 {α : Type} (a b c d e f g h i : α) : atD [a, b, c, d, e, f, g, h, i] (-1) = some i := atD_last [a, b, c, d, e, f, g, h] i
end Tg

namespace Tg
/-! ## rows of code -/
inductive Row where
  | num (d k n q : Int)
  | copy (d k i q : Int)
  | op (d : Int) (s : List Nat) (k i j q : Int)
  | out (i q : Int)
  | fork (i q p : Int)
  | look (i q : Int)
  | mark (q : Int)
  | back (i : Int)
  deriving DecidableEq
def Row.d : Row → D
  | .num d k n q => .tup [.str [110, 117, 109], .int d, .int k, .int n, .int q]
  | .copy d k i q => .tup [.str [99, 111, 112, 121], .int d, .int k, .int i, .int q]
  | .op d s k i j q => .tup [.str [111, 112], .int d, .str s, .int k, .int i, .int j, .int q]
  | .out i q => .tup [.str [111, 117, 116], .int i, .int q]
  | .fork i q p => .tup [.str [102, 111, 114, 107], .int i, .int q, .int p]
  | .look i q => .tup [.str [108, 111, 111, 107], .int i, .int q]
  | .mark q => .tup [.str [109, 97, 114, 107], .int q]
  | .back i => .tup [.str [98, 97, 99, 107], .int i]
/-- a sign of a written text -/
def Row.okS : Row → Prop
  | .op _ s _ _ _ _ => ∃ c, s = [c] ∧ c < 1114112
  | _ => True
def Row.ways : Row → List Int
  | .num _ _ _ q => [q]
  | .copy _ _ _ q => [q]
  | .op _ _ _ _ _ q => [q]
  | .out _ q => [q]
  | .fork _ q p => [q, p]
  | .look _ q => [q]
  | .mark q => [q]
  | .back _ => []
/-- all places of a row are among the first n -/
def Row.within (n : Nat) (r : Row) : Prop := ∀ q ∈ r.ways, 0 ≤ q ∧ q < n
@[simp] theorem Row.d_sh (r : Row) : r.d.sh = true := by cases r <;> rfl
@[simp] theorem Row.d_fz (r : Row) : r.d.fz = r.d := by cases r <;> rfl
@[simp] theorem Row.d_nf (r : Row) : r.d.nf = true := by cases r <;> rfl
@[simp] theorem rows_shs (rs : List Row) : D.shs (rs.map Row.d) = true := shs_map _ Row.d_sh rs
@[simp] theorem rows_fzs (rs : List Row) : D.fzs (rs.map Row.d) = rs.map Row.d := fzs_map _ Row.d_fz rs
@[simp] theorem rows_nfs (rs : List Row) : D.nfs (rs.map Row.d) = true := nfs_map _ Row.d_nf rs
theorem Row.d_hole (r : Row) : r.d ≠ .hole := by cases r <;> (intro h; cases h)
@[simp] theorem varD_row (r : Row) : varD (some r.d) = some r.d := varD_of r.d_hole
theorem Row.d_tup (r : Row) : ∃ xs, r.d = .tup xs := by cases r <;> exact ⟨_, rfl⟩
theorem Row.d_eqok (r : Row) (h : r.okS) (n : Nat) : r.d.eqok (n + 1) = true := by
  cases r <;> first | (simp [Row.d, D.eqok, D.eqoks]; done) | (obtain ⟨c, rfl, hc⟩ := h; simp [Row.d, D.eqok, D.eqoks, hc])
theorem rows_eqok (rs : List Row) (h : ∀ r ∈ rs, r.okS) (o : Bool) : (D.lst o (rs.map Row.d)).eqok 60 = true := by
  show D.eqoks 59 (rs.map Row.d) = true
  induction rs with
  | nil => rfl
  | cons r rs ih =>
    rw [List.map_cons]
    unfold D.eqoks
    rw [Row.d_eqok r (h r (by simp)) 58, ih fun x hx => h x (by simp [hx])]
    rfl
theorem ints_eqok (ns : List Int) (o : Bool) : (D.lst o (ns.map .int)).eqok 60 = true := eqoks_ints 59 ns
@[simp] theorem eqvs_ints (a b : List Int) : D.eqvs (a.map .int) (b.map .int) = decide (a = b) := by
  induction a generalizing b with
  | nil => cases b <;> simp [D.eqvs]
  | cons x a ih =>
    cases b with
    | nil => simp [D.eqvs]
    | cons y b =>
      show (D.eqv (.int x) (.int y) && D.eqvs (a.map .int) (b.map .int)) = _
      rw [ih]
      show ((x == y) && _) = _
      by_cases h : x = y <;> simp [h]
theorem gEq_ints (o o' : Bool) (a b : List Int) : gEq (.lst o (a.map .int)) (.lst o' (b.map .int)) = some (.bl (decide (a = b))) := by
  rw [gEq_of (ints_eqok a o) (ints_eqok b o')]
  show some (D.bl (D.eqvs _ _)) = _
  rw [eqvs_ints]
theorem gNe_ints (o o' : Bool) (a b : List Int) : gNe (.lst o (a.map .int)) (.lst o' (b.map .int)) = some (.bl (!decide (a = b))) := by
  rw [gNe_of (ints_eqok a o) (ints_eqok b o')]
  show some (D.bl (!D.eqvs _ _)) = _
  rw [eqvs_ints]
theorem eqvs_rows (rs : List Row) (h : ∀ r ∈ rs, r.okS) : D.eqvs (rs.map Row.d) (rs.map Row.d) = true := D.eqvs_refl 59 _ (by have := rows_eqok rs h true; exact this)
theorem gEq_rows (o o' : Bool) (rs : List Row) (h : ∀ r ∈ rs, r.okS) : gEq (.lst o (rs.map Row.d)) (.lst o' (rs.map Row.d)) = some (.bl true) := by
  rw [gEq_of (rows_eqok rs h o) (rows_eqok rs h o')]
  show some (D.bl (D.eqvs _ _)) = _
  rw [eqvs_rows rs h]
/-! ## digits -/
def digs : Int → List Int → List Int
  | n, [] => [n]
  | n, s :: ss => n % s :: digs (n / s) ss
end Tg

namespace Tg
/-! ## rows by natural numbers, the twin machine -/
inductive RN where
  | num (d k n q : Nat)
  | copy (d k i q : Nat)
  | op (d s k i j q : Nat)
  | out (i q : Nat)
  | fork (i q p : Nat)
  | look (i q : Nat)
  | mark (q : Nat)
  | back (i : Nat)
  deriving DecidableEq
def nD (n : Nat) : D := .int n
def RN.d : RN → D
  | .num d k n q => .tup [.str [110, 117, 109], .int d, .int k, .int n, .int q]
  | .copy d k i q => .tup [.str [99, 111, 112, 121], .int d, .int k, .int i, .int q]
  | .op d s k i j q => .tup [.str [111, 112], .int d, .str [s], .int k, .int i, .int j, .int q]
  | .out i q => .tup [.str [111, 117, 116], .int i, .int q]
  | .fork i q p => .tup [.str [102, 111, 114, 107], .int i, .int q, .int p]
  | .look i q => .tup [.str [108, 111, 111, 107], .int i, .int q]
  | .mark q => .tup [.str [109, 97, 114, 107], .int q]
  | .back i => .tup [.str [98, 97, 99, 107], .int i]
/-- values below this one -/
def top48 : Nat := 281474976710656
def RN.ok : RN → Prop
  | .num d k n _ => d ≤ 2 ∧ k < 8 ∧ n < top48
  | .copy d k i _ => d ≤ 2 ∧ k < 8 ∧ i < 8
  | .op d s k i j _ => d ≤ 2 ∧ k < 8 ∧ i < 8 ∧ j < 8 ∧ s < 1114112
  | .out i _ => i < 8
  | .fork i _ _ => i < 8
  | .look i _ => i < 8
  | .mark _ => True
  | .back i => i < 8
def RN.deed : RN → Bool
  | .num _ _ _ _ => true
  | .copy _ _ _ _ => true
  | .op _ _ _ _ _ _ => true
  | _ => false
@[simp] theorem nD_sh (n : Nat) : (nD n).sh = true := rfl
@[simp] theorem nD_fz (n : Nat) : (nD n).fz = nD n := rfl
@[simp] theorem nD_nf (n : Nat) : (nD n).nf = true := rfl
@[simp] theorem RN.d_sh (r : RN) : r.d.sh = true := by cases r <;> rfl
@[simp] theorem RN.d_fz (r : RN) : r.d.fz = r.d := by cases r <;> rfl
@[simp] theorem RN.d_nf (r : RN) : r.d.nf = true := by cases r <;> rfl
@[simp] theorem nDs_shs (xs : List Nat) : D.shs (xs.map nD) = true := shs_map _ nD_sh xs
@[simp] theorem nDs_fzs (xs : List Nat) : D.fzs (xs.map nD) = xs.map nD := fzs_map _ nD_fz xs
@[simp] theorem nDs_nfs (xs : List Nat) : D.nfs (xs.map nD) = true := nfs_map _ nD_nf xs
@[simp] theorem RNs_shs (xs : List RN) : D.shs (xs.map RN.d) = true := shs_map _ RN.d_sh xs
@[simp] theorem RNs_fzs (xs : List RN) : D.fzs (xs.map RN.d) = xs.map RN.d := fzs_map _ RN.d_fz xs
@[simp] theorem RNs_nfs (xs : List RN) : D.nfs (xs.map RN.d) = true := nfs_map _ RN.d_nf xs
theorem RN.d_hole (r : RN) : r.d ≠ .hole := by cases r <;> (intro h; cases h)
@[simp] theorem varD_rn (r : RN) : varD (some r.d) = some r.d := varD_of r.d_hole
@[simp] theorem varD_nD (n : Nat) : varD (some (nD n)) = some (nD n) := rfl
theorem RN.d_eqok (r : RN) (h : r.ok) (n : Nat) : r.d.eqok (n + 1) = true := by
  cases r <;> first | (simp [RN.d, D.eqok, D.eqoks]; done) | (simp [RN.d, D.eqok, D.eqoks]; exact h.2.2.2.2)
theorem RNs_eqoks (rs : List RN) (h : ∀ r ∈ rs, r.ok) (n : Nat) : D.eqoks (n + 1) (rs.map RN.d) = true := by
  induction rs with
  | nil => rfl
  | cons r rs ih =>
    rw [List.map_cons]
    unfold D.eqoks
    rw [RN.d_eqok r (h r (by simp)) n, ih fun x hx => h x (by simp [hx])]
    rfl
@[simp] theorem shs_repN (n m : Nat) : D.shs (List.replicate n (nD m)) = true := by
  induction n with
  | zero => rfl
  | succ n ih => rw [List.replicate_succ]; exact ih
theorem nDs_eqoks (n : Nat) (ns : List Nat) : D.eqoks n (ns.map nD) = true := eqoks_map n nD (fun i => eqok_int n i) ns
theorem nDs_ints (ns : List Nat) : ns.map nD = (ns.map fun (n : Nat) => (n : Int)).map D.int := by rw [List.map_map]; rfl
theorem eqvs_nDs (a b : List Nat) : D.eqvs (a.map nD) (b.map nD) = decide (a = b) := by
  induction a generalizing b with
  | nil => cases b <;> simp [D.eqvs]
  | cons x a ih =>
    cases b with
    | nil => simp [D.eqvs]
    | cons y b =>
      show (D.eqv (nD x) (nD y) && D.eqvs (a.map nD) (b.map nD)) = _
      rw [ih]
      show (((x : Int) == (y : Int)) && _) = _
      by_cases h : x = y
      · simp [h]
      · simp [h]; omega
theorem eqvs_RNs (rs : List RN) (h : ∀ r ∈ rs, r.ok) : D.eqvs (rs.map RN.d) (rs.map RN.d) = true := D.eqvs_refl 59 _ (RNs_eqoks rs h 58)
theorem at_nD {xs : List Nat} {i : Nat} (h : i < xs.length) : atD (xs.map nD) (i : Int) = some (.int (xs.getD i 0 : Nat)) := by
  rw [atD_nat (by simpa using h)]
  simp [nD, h]
theorem ix_nD {xs : List Nat} {i : Nat} (h : i < xs.length) : ixD xs.length (i : Int) = some i := ixD_nat h
/-! ### the value of a sign -/
def valN (s a b : Nat) : Nat :=
  if s = 43 then (a + b) % top48
  else if s = 45 then (a + (top48 - b)) % top48
  else if s = 42 then a * b % top48
  else if s = 47 then a / b
  else if s = 60 then (if a < b then 1 else 0)
  else if s = 61 then (if a = b then 1 else 0)
  else if s = 38 then a &&& b
  else if s = 124 then a ||| b
  else a ^^^ b
theorem top48_pow : top48 = 2 ^ 48 := by decide
theorem valN_lt {s a b : Nat} (ha : a < top48) (hb : b < top48) : valN s a b < top48 := by
  have h0 : 0 < top48 := by decide
  have h1 : 1 < top48 := by decide
  unfold valN
  split
  · exact Nat.mod_lt _ h0
  split
  · exact Nat.mod_lt _ h0
  split
  · exact Nat.mod_lt _ h0
  split
  · exact Nat.lt_of_le_of_lt (Nat.div_le_self a b) ha
  split
  · split <;> assumption
  split
  · split <;> assumption
  rw [top48_pow] at ha hb ⊢
  split
  · exact Nat.and_lt_two_pow _ hb
  split
  · exact Nat.or_lt_two_pow ha hb
  · exact Nat.xor_lt_two_pow ha hb
/-! ### the machine -/
structure Mc where
  code : List RN
  a : List Nat
  b : List Nat
  here : Nat
  tally : Nat
  outs : List Nat
  word : List Nat
  ans : Option Nat
  steps : Nat
def oD : Option Nat → D
  | none => .non
  | some n => .int n
@[simp] theorem oD_sh (o : Option Nat) : (oD o).sh = true := by cases o <;> rfl
@[simp] theorem oD_fz (o : Option Nat) : (oD o).fz = oD o := by cases o <;> rfl
@[simp] theorem oD_nf (o : Option Nat) : (oD o).nf = true := by cases o <;> rfl
theorem oD_hole (o : Option Nat) : oD o ≠ .hole := by cases o <;> (intro h; cases h)
@[simp] theorem varD_oD (o : Option Nat) : varD (some (oD o)) = some (oD o) := varD_of (oD_hole o)
@[simp] theorem oD_eqok (o : Option Nat) (n : Nat) : (oD o).eqok n = true := by cases o <;> (unfold oD D.eqok; rfl)
def cryW : List Nat := [99, 114, 121]
def backW : List Nat := [98, 97, 99, 107]
def tiredW : List Nat := [116, 105, 114, 101, 100]
def Mc.fs (o : Bool) (m : Mc) : List (PySem.Str × D) := [("code", .lst o (m.code.map RN.d)), ("sides", .lst o [.lst o (m.a.map nD), .lst o (m.b.map nD)]), ("here", .int m.here), ("tally", .int m.tally),
  ("outs", .lst o (m.outs.map nD)), ("word", .str m.word), ("answer", oD m.ans), ("steps", .int m.steps)]
def Mc.d (c : Nat) (o : Bool) (m : Mc) : D := .obj o c (m.fs o)
@[simp] theorem varD_mc (c : Nat) (o : Bool) (m : Mc) : varD (some (m.d c o)) = some (m.d c o) := rfl
theorem Mc.fz (c : Nat) (m : Mc) : (m.d c true).fz = m.d c false := by
  simp [Mc.d, Mc.fs]
section
variable (o : Bool) (m : Mc)
theorem lk_code : lookF "code" (m.fs o) = some (.lst o (m.code.map RN.d)) := by simp [Mc.fs, lookF]
theorem lk_sides : lookF "sides" (m.fs o) = some (.lst o [.lst o (m.a.map nD), .lst o (m.b.map nD)]) := by
  unfold Mc.fs lookF; rw [if_neg (by decide)]; unfold lookF; rw [if_pos rfl]
theorem lk_here : lookF "here" (m.fs o) = some (.int m.here) := by
  unfold Mc.fs; repeat (unfold lookF; first | rw [if_pos rfl] | rw [if_neg (by decide)])
theorem lk_tally : lookF "tally" (m.fs o) = some (.int m.tally) := by
  unfold Mc.fs; repeat (unfold lookF; first | rw [if_pos rfl] | rw [if_neg (by decide)])
theorem lk_outs : lookF "outs" (m.fs o) = some (.lst o (m.outs.map nD)) := by
  unfold Mc.fs; repeat (unfold lookF; first | rw [if_pos rfl] | rw [if_neg (by decide)])
theorem lk_word : lookF "word" (m.fs o) = some (.str m.word) := by
  unfold Mc.fs; repeat (unfold lookF; first | rw [if_pos rfl] | rw [if_neg (by decide)])
theorem lk_answer : lookF "answer" (m.fs o) = some (oD m.ans) := by
  unfold Mc.fs; repeat (unfold lookF; first | rw [if_pos rfl] | rw [if_neg (by decide)])
theorem lk_steps : lookF "steps" (m.fs o) = some (.int m.steps) := by
  unfold Mc.fs; repeat (unfold lookF; first | rw [if_pos rfl] | rw [if_neg (by decide)])
theorem lk_none (f : PySem.Str) (h : (m.fs o).all (fun p => decide (f ≠ p.1)) = true) : lookF f (m.fs o) = none := by
  unfold Mc.fs at *
  simp only [List.all_cons, List.all_nil, Bool.and_true, Bool.and_eq_true, decide_eq_true_eq] at h
  obtain ⟨h1, h2, h3, h4, h5, h6, h7, h8⟩ := h
  unfold lookF; rw [if_neg h1]
  unfold lookF; rw [if_neg h2]
  unfold lookF; rw [if_neg h3]
  unfold lookF; rw [if_neg h4]
  unfold lookF; rw [if_neg h5]
  unfold lookF; rw [if_neg h6]
  unfold lookF; rw [if_neg h7]
  unfold lookF; rw [if_neg h8]
  rfl
theorem pt_here (n : Nat) : putFD "here" (.int n) (m.fs o) = ({ m with here := n } : Mc).fs o := by
  unfold Mc.fs; repeat (unfold putFD; first | rw [if_pos rfl] | rw [if_neg (by decide)])
theorem pt_tally (n : Nat) : putFD "tally" (.int n) (m.fs o) = ({ m with tally := n } : Mc).fs o := by
  unfold Mc.fs; repeat (unfold putFD; first | rw [if_pos rfl] | rw [if_neg (by decide)])
theorem pt_steps (n : Nat) : putFD "steps" (.int n) (m.fs o) = ({ m with steps := n } : Mc).fs o := by
  unfold Mc.fs; repeat (unfold putFD; first | rw [if_pos rfl] | rw [if_neg (by decide)])
theorem pt_word (n : List Nat) : putFD "word" (.str n) (m.fs o) = ({ m with word := n } : Mc).fs o := by
  unfold Mc.fs; repeat (unfold putFD; first | rw [if_pos rfl] | rw [if_neg (by decide)])
theorem pt_answer (n : Nat) : putFD "answer" (.int n) (m.fs o) = ({ m with ans := some n } : Mc).fs o := by
  unfold Mc.fs; repeat (unfold putFD; first | rw [if_pos rfl] | rw [if_neg (by decide)])
  rfl
theorem pt_outs (n : List Nat) : putFD "outs" (.lst o (n.map nD)) (m.fs o) = ({ m with outs := n } : Mc).fs o := by
  unfold Mc.fs; repeat (unfold putFD; first | rw [if_pos rfl] | rw [if_neg (by decide)])
theorem pt_sides (a b : List Nat) : putFD "sides" (.lst o [.lst o (a.map nD), .lst o (b.map nD)]) (m.fs o) = ({ m with a := a, b := b } : Mc).fs o := by
  unfold Mc.fs; repeat (unfold putFD; first | rw [if_pos rfl] | rw [if_neg (by decide)])
end
@[simp] theorem fs_len (o : Bool) (m : Mc) : (m.fs o).length = 8 := rfl
theorem pt_steps1 (o : Bool) (m : Mc) : putFD "steps" (.int ((m.steps : Int) + 1)) (m.fs o) = ({ m with steps := m.steps + 1 } : Mc).fs o := pt_steps o m (m.steps + 1)
@[simp] theorem mc_fzf (m : Mc) : D.fzf (m.fs true) = m.fs false := by simp [Mc.fs]
@[simp] theorem mc_nff (m : Mc) : D.nff (m.fs true) = true := by simp [Mc.fs]
def bAt (bs : List Nat) (i : Nat) : Nat := bs.getD i 0
def doDeed (bs : List Nat) : RN → List Nat
  | .num _ k n _ => bs.set k n
  | .copy _ k i _ => bs.set k (bAt bs i)
  | .op _ s k i j _ => bs.set k (valN s (bAt bs i) (bAt bs j))
  | _ => bs
def RN.side : RN → Nat
  | .num d _ _ _ => d
  | .copy d _ _ _ => d
  | .op d _ _ _ _ _ => d
  | _ => 2
def Mc.cries (m : Mc) : RN → Bool
  | .mark _ => m.tally != m.here
  | .fork i _ _ => (bAt m.a i == 0) != (bAt m.b i == 0)
  | .look i _ => bAt m.a i != bAt m.b i
  | .out i _ => bAt m.a i != bAt m.b i || m.tally != m.here
  | .back i => bAt m.a i != bAt m.b i || m.tally != m.here
  | _ => false
def Mc.done (m : Mc) (r : RN) : Mc := match r with
  | .out i _ => { m with outs := m.outs ++ [bAt m.a i] }
  | r => if r.deed then { m with a := if r.side = 0 ∨ r.side = 2 then doDeed m.a r else m.a, b := if r.side = 1 ∨ r.side = 2 then doDeed m.b r else m.b } else m
theorem Mc.done_deed (m : Mc) (r : RN) (h : r.deed = true) : m.done r = { m with a := if r.side = 0 ∨ r.side = 2 then doDeed m.a r else m.a, b := if r.side = 1 ∨ r.side = 2 then doDeed m.b r else m.b } := by
  cases r <;> first | (cases h; done) | simp [Mc.done, RN.deed]
def Mc.onw (m : Mc) : RN → Nat
  | .num _ _ _ q => q
  | .copy _ _ _ q => q
  | .op _ _ _ _ _ q => q
  | .out _ q => q
  | .fork i q p => if bAt m.a i ≠ 0 then q else p
  | .look _ q => q
  | .mark q => q
  | .back i => i
def Mc.goOn (m : Mc) (r : RN) : Mc := match r with
  | .back i => { m with word := backW, ans := some (bAt m.a i) }
  | r => { m.done r with tally := (m.tally ^^^ m.here) ^^^ m.onw r, here := m.onw r }
def Mc.step (m : Mc) : Mc := if m.word ≠ [] then m else match m.code[m.here]? with
  | none => { m with steps := m.steps + 1, word := cryW }
  | some r => if m.cries r then { m with steps := m.steps + 1, word := cryW } else ({ m with steps := m.steps + 1 } : Mc).goOn r
inductive What where
  | box (side k bit : Nat)
  | mark (bit : Nat)
  | place (bit : Nat)
def What.d : What → D
  | .box s k b => .tup [.str [98, 111, 120], .int s, .int k, .int b]
  | .mark b => .tup [.str [109, 97, 114, 107], .int b]
  | .place b => .tup [.str [112, 108, 97, 99, 101], .int b]
def What.ok : What → Prop
  | .box s k b => s ≤ 1 ∧ k < 8 ∧ b < 48
  | .mark b => b < 48
  | .place b => b < 48
def Mc.turn (m : Mc) (w : What) : Mc := if m.word ≠ [] then m else match w with
  | .box s k b => if s = 0 then { m with a := m.a.set k (bAt m.a k ^^^ 2 ^ b) } else { m with b := m.b.set k (bAt m.b k ^^^ 2 ^ b) }
  | .mark b => { m with tally := m.tally ^^^ 2 ^ b }
  | .place b => { m with here := m.here ^^^ 2 ^ b }
def bOk (bs : List Nat) : Prop := bs.length = 8 ∧ ∀ x ∈ bs, x < top48
structure Mc.Ok (m : Mc) : Prop where
  code : ∀ r ∈ m.code, r.ok
  a : bOk m.a
  b : bOk m.b
theorem bAt_lt {bs : List Nat} (h : bOk bs) (i : Nat) : bAt bs i < top48 := by
  unfold bAt
  rw [List.getD_eq_getElem?_getD]
  cases e : bs[i]? with
  | none => decide
  | some x => exact h.2 x (List.mem_of_getElem? e)
theorem bOk.set {bs : List Nat} (h : bOk bs) (k : Nat) {n : Nat} (hn : n < top48) : bOk (bs.set k n) := ⟨by rw [List.length_set]; exact h.1, fun x hx => (List.mem_or_eq_of_mem_set hx).elim (h.2 x) fun e => by rw [e]; exact hn⟩
theorem doDeed_ok {bs : List Nat} (h : bOk bs) {r : RN} (hr : r.ok) : bOk (doDeed bs r) := by
  cases r with
  | num d k n q => exact h.set k hr.2.2
  | copy d k i q => exact h.set k (bAt_lt h i)
  | op d s k i j q => exact h.set k (valN_lt (bAt_lt h i) (bAt_lt h j))
  | _ => exact h
theorem Mc.Ok.done {m : Mc} (h : m.Ok) {r : RN} (hr : r.ok) : (m.done r).Ok := by
  have ha := doDeed_ok h.a hr
  have hb := doDeed_ok h.b hr
  cases r with
  | out i q => exact ⟨h.code, h.a, h.b⟩
  | num d k n q =>
    refine ⟨h.code, ?_, ?_⟩
    · show bOk (if _ then _ else _); split <;> first | exact ha | exact h.a
    · show bOk (if _ then _ else _); split <;> first | exact hb | exact h.b
  | copy d k n q =>
    refine ⟨h.code, ?_, ?_⟩
    · show bOk (if _ then _ else _); split <;> first | exact ha | exact h.a
    · show bOk (if _ then _ else _); split <;> first | exact hb | exact h.b
  | op d s k n j q =>
    refine ⟨h.code, ?_, ?_⟩
    · show bOk (if _ then _ else _); split <;> first | exact ha | exact h.a
    · show bOk (if _ then _ else _); split <;> first | exact hb | exact h.b
  | _ => exact h
theorem Mc.Ok.goOn {m : Mc} (h : m.Ok) {r : RN} (hr : r.ok) : (m.goOn r).Ok := by
  have hd := h.done hr
  cases r <;> first | exact ⟨h.code, h.a, h.b⟩ | exact ⟨hd.code, hd.a, hd.b⟩
theorem Mc.Ok.step {m : Mc} (h : m.Ok) : m.step.Ok := by
  unfold Mc.step
  split
  · exact h
  · split
    · exact ⟨h.code, h.a, h.b⟩
    · rename_i r hr
      split
      · exact ⟨h.code, h.a, h.b⟩
      · exact (show ({ m with steps := m.steps + 1 } : Mc).Ok from ⟨h.code, h.a, h.b⟩).goOn (h.code r (List.mem_of_getElem? hr))
theorem xor_ok {x b : Nat} (h : x < top48) (hb : b < 48) : x ^^^ 2 ^ b < top48 := by
  rw [top48_pow] at h ⊢
  exact Nat.xor_lt_two_pow h (Nat.pow_lt_pow_right (by decide) hb)
theorem Mc.Ok.turn {m : Mc} (h : m.Ok) {w : What} (hw : w.ok) : (m.turn w).Ok := by
  unfold Mc.turn
  split
  · exact h
  · cases w with
    | box s k b =>
      show Mc.Ok (if s = 0 then _ else _)
      split
      · exact ⟨h.code, h.a.set k (xor_ok (bAt_lt h.a k) hw.2.2), h.b⟩
      · exact ⟨h.code, h.a, h.b.set k (xor_ok (bAt_lt h.b k) hw.2.2)⟩
    | mark b => exact ⟨h.code, h.a, h.b⟩
    | place b => exact ⟨h.code, h.a, h.b⟩
/-! ### a run -/
abbrev Turn := Nat × What
def tD (t : Turn) : D := .tup [.int t.1, t.2.d]
def Mc.tk (m : Mc) (ts : List Turn) : Mc × List Turn := match ts with
  | [] => (m, [])
  | t :: r => if t.1 = m.steps then (m.turn t.2, r) else (m, t :: r)
/-- n steps at most -/
def Mc.go : Nat → Mc → List Turn → Mc
  | 0, m, _ => m
  | n + 1, m, ts => if m.word ≠ [] then m else Mc.go n (m.tk ts).1.step (m.tk ts).2
def Mc.start (code : List RN) (args : List Nat) : Mc := ⟨code, args ++ List.replicate (8 - args.length) 0, args ++ List.replicate (8 - args.length) 0, 0, 0, [], [], none, 0⟩
theorem Mc.start_ok {code : List RN} {args : List Nat} (h : ∀ r ∈ code, r.ok) (h1 : args.length ≤ 8) (h2 : ∀ x ∈ args, x < top48) : (Mc.start code args).Ok := by
  have hb : bOk (args ++ List.replicate (8 - args.length) 0) := ⟨by simp; omega, fun x hx => by
    rcases List.mem_append.mp hx with z | z
    · exact h2 x z
    · rw [List.eq_of_mem_replicate z]; decide⟩
  exact ⟨h, hb, hb⟩
theorem Mc.Ok.tk {m : Mc} (h : m.Ok) {ts : List Turn} (ht : ∀ t ∈ ts, t.2.ok) : (m.tk ts).1.Ok ∧ ∀ t ∈ (m.tk ts).2, t.2.ok := by
  unfold Mc.tk
  split
  · exact ⟨h, ht⟩
  · rename_i t r
    split
    · exact ⟨h.turn (ht t (by simp)), fun x hx => ht x (by simp [hx])⟩
    · exact ⟨h, ht⟩
theorem Mc.go_ok : ∀ (n : Nat) {m : Mc} {ts : List Turn}, m.Ok → (∀ t ∈ ts, t.2.ok) → (Mc.go n m ts).Ok
  | 0, m, ts, h, _ => h
  | n + 1, m, ts, h, ht => by
    unfold Mc.go
    split
    · exact h
    · exact Mc.go_ok n (h.tk ht).1.step (h.tk ht).2
/-- what a run tells: word, what was sent, answer, steps -/
structure Run where
  word : List Nat
  sent : List Nat
  ans : Option Nat
  steps : Nat
  deriving DecidableEq
def Run.d (o : Bool) (r : Run) : D := .tup [.str r.word, .lst o (r.sent.map nD), oD r.ans, .int r.steps]
def Mc.told (m : Mc) : Run := ⟨m.word, m.outs, m.ans, m.steps⟩
def Mc.ended (m : Mc) : Run := ⟨if m.word = [] then tiredW else m.word, m.outs, m.ans, m.steps⟩
def twinR (code : List RN) (args : List Nat) (ts : List Turn) (most : Nat) : Run := (Mc.go most (Mc.start code args) ts).ended
@[simp] theorem Run.d_fz (r : Run) : (r.d true).fz = r.d false := by simp [Run.d]
@[simp] theorem Run.d_fzf (r : Run) : (r.d false).fz = r.d false := by simp [Run.d]
@[simp] theorem Run.d_sh (r : Run) : (r.d false).sh = true := by simp [Run.d]
@[simp] theorem Run.d_nf (r : Run) : (r.d true).nf = true := by simp [Run.d]
@[simp] theorem varD_run (o : Bool) (r : Run) : varD (some (r.d o)) = some (r.d o) := rfl
theorem Run.eqok (o : Bool) (r : Run) (h : r.word.all (fun c => decide (c < 1114112)) = true) (n : Nat) : (r.d o).eqok (n + 2) = true := by
  have e := nDs_eqoks n r.sent
  simp [Run.d, D.eqok, D.eqoks, e] at h ⊢
  exact h
theorem eqv_oD (a b : Option Nat) : D.eqv (oD a) (oD b) = decide (a = b) := by
  cases a <;> cases b <;> simp [oD, D.eqv]
  rename_i x y
  by_cases h : x = y
  · simp [h]
  · simp [h]; omega
theorem Run.eqv (o o' : Bool) (r s : Run) : D.eqv (r.d o) (s.d o') = decide (r = s) := by
  obtain ⟨w, l, a, n⟩ := r
  obtain ⟨w', l', a', n'⟩ := s
  have e : ((n : Int) == (n' : Int)) = decide (n = n') := by by_cases h : n = n' <;> simp [h]; omega
  simp [Run.d, D.eqv, D.eqvs, eqvs_nDs, eqv_oD, e, Bool.decide_and]
  by_cases h : w = w' <;> simp [h]
theorem Mc.word_go : ∀ (n : Nat) (m : Mc) (ts : List Turn), m.word ∈ [[], cryW, backW] → (Mc.go n m ts).word ∈ [[], cryW, backW]
  | 0, m, _, h => h
  | n + 1, m, ts, h => by
    unfold Mc.go
    split
    · exact h
    · rename_i hw
      have hw' : m.word = [] := by simpa using hw
      refine Mc.word_go n _ _ ?_
      have e1 : (m.tk ts).1.word = [] := by
        unfold Mc.tk
        split
        · exact hw'
        · split
          · rename_i t r _
            unfold Mc.turn
            rw [if_neg (by simpa using hw')]
            cases t.2 <;> first | exact hw' | (show Mc.word (if _ then _ else _) = []; split <;> exact hw')
          · exact hw'
      unfold Mc.step
      rw [if_neg (by simpa using e1)]
      split
      · simp
      · split
        · simp
        · rename_i r _ _
          cases r <;> first | (simp [Mc.goOn]; done) | (show Mc.word (Mc.done _ _) ∈ _; unfold Mc.done; first | (simp [e1]; done) | (simp [RN.deed, e1]; done))
theorem twinR_word (code : List RN) (args : List Nat) (ts : List Turn) (most : Nat) : (twinR code args ts most).word.all (fun c => decide (c < 1114112)) = true := by
  have h := Mc.word_go most (Mc.start code args) ts (by simp [Mc.start])
  show (if _ then tiredW else _ : List Nat).all _ = true
  split
  · decide
  · simp only [List.mem_cons, List.not_mem_nil, or_false] at h
    rcases h with h | h | h <;> rw [h] <;> decide
/-! ### no more is sent than steps are taken -/
theorem Mc.outs_step (m : Mc) (h : m.outs.length ≤ m.steps) : m.step.outs.length ≤ m.step.steps := by
  unfold Mc.step
  split
  · exact h
  · split
    · exact Nat.le_succ_of_le h
    · split
      · exact Nat.le_succ_of_le h
      · rename_i r _ _
        cases r <;> simp [Mc.goOn, Mc.done, RN.deed] <;> omega
theorem Mc.turn_same (m : Mc) (w : What) : (m.turn w).outs = m.outs ∧ (m.turn w).steps = m.steps ∧ (m.turn w).word = m.word ∧ (m.turn w).code = m.code ∧ (m.turn w).ans = m.ans := by
  unfold Mc.turn
  split
  · exact ⟨rfl, rfl, rfl, rfl, rfl⟩
  · cases w with
    | box s k b => show _ ∧ _; by_cases h : s = 0 <;> simp [h]
    | mark b => exact ⟨rfl, rfl, rfl, rfl, rfl⟩
    | place b => exact ⟨rfl, rfl, rfl, rfl, rfl⟩
theorem Mc.tk_same (m : Mc) (ts : List Turn) : (m.tk ts).1.outs = m.outs ∧ (m.tk ts).1.steps = m.steps ∧ (m.tk ts).1.word = m.word ∧ (m.tk ts).1.code = m.code ∧ (m.tk ts).1.ans = m.ans := by
  unfold Mc.tk
  split
  · exact ⟨rfl, rfl, rfl, rfl, rfl⟩
  · split
    · exact m.turn_same _
    · exact ⟨rfl, rfl, rfl, rfl, rfl⟩
theorem Mc.step_steps (m : Mc) (h : m.word = []) : m.step.steps = m.steps + 1 := by
  unfold Mc.step
  rw [if_neg (by simpa using h)]
  split
  · rfl
  · split
    · rfl
    · rename_i r _ _
      cases r <;> simp [Mc.goOn, Mc.done, RN.deed]
/-! ### turns as trees -/
theorem tD_t (t : Turn) : tD t = .tup [.int t.1, t.2.d] := rfl
theorem What.d_eqok (w : What) (n : Nat) : w.d.eqok (n + 1) = true := by
  cases w <;> simp [What.d, D.eqok, D.eqoks]
theorem tDs_eqoks (ts : List Turn) (n : Nat) : D.eqoks (n + 2) (ts.map tD) = true := eqoks_map (n + 2) tD (fun t => by
  have := What.d_eqok t.2 n
  simp [tD, D.eqok, D.eqoks, this]) ts
@[simp] theorem What.d_sh (w : What) : w.d.sh = true := by cases w <;> rfl
@[simp] theorem What.d_fz (w : What) : w.d.fz = w.d := by cases w <;> rfl
@[simp] theorem What.d_nf (w : What) : w.d.nf = true := by cases w <;> rfl
@[simp] theorem tD_sh (t : Turn) : (tD t).sh = true := by simp [tD]
@[simp] theorem tD_fz (t : Turn) : (tD t).fz = tD t := by simp [tD]
@[simp] theorem tD_nf (t : Turn) : (tD t).nf = true := by simp [tD]
@[simp] theorem tDs_shs (xs : List Turn) : D.shs (xs.map tD) = true := shs_map _ tD_sh xs
@[simp] theorem tDs_fzs (xs : List Turn) : D.fzs (xs.map tD) = xs.map tD := fzs_map _ tD_fz xs
@[simp] theorem tDs_nfs (xs : List Turn) : D.nfs (xs.map tD) = true := nfs_map _ tD_nf xs
theorem What.d_hole (w : What) : w.d ≠ .hole := by cases w <;> (intro h; cases h)
@[simp] theorem varD_what (w : What) : varD (some w.d) = some w.d := varD_of w.d_hole
theorem left_ne (o : Bool) (ts : List Turn) : gNe (.lst o (ts.map tD)) (.lst true []) = some (.bl (!ts.isEmpty)) := by
  rw [gNe_of (show (D.lst o (ts.map tD)).eqok 60 = true from tDs_eqoks ts 57) (show (D.lst true []).eqok 60 = true from rfl)]
  cases ts <;> rfl
/-- the turns that are left behind a run -/
def Mc.goT : Nat → Mc → List Turn → List Turn
  | 0, _, ts => ts
  | n + 1, m, ts => if m.word ≠ [] then ts else Mc.goT n (m.tk ts).1.step (m.tk ts).2
/-! ### steps only grow; turns that come too late -/
theorem Mc.go_mono : ∀ (n : Nat) (m : Mc) (ts : List Turn), m.steps ≤ (Mc.go n m ts).steps
  | 0, m, ts => Nat.le_refl _
  | n + 1, m, ts => by
    unfold Mc.go
    split
    · exact Nat.le_refl _
    · rename_i hw
      have hw' : m.word = [] := by simpa using hw
      have hs := m.tk_same ts
      have h1 := Mc.step_steps (m.tk ts).1 (by rw [hs.2.2.1]; exact hw')
      have h2 := Mc.go_mono n (m.tk ts).1.step (m.tk ts).2
      rw [h1, hs.2.1] at h2
      omega
theorem Mc.go_late : ∀ (n : Nat) (m : Mc) (ts : List Turn), (∀ t ∈ ts, ¬ t.1 < (Mc.go n m ts).steps) → Mc.go n m ts = Mc.go n m []
  | 0, m, ts, _ => rfl
  | n + 1, m, ts, h => by
    by_cases hw : m.word = []
    · have e1 : ∀ us, Mc.go (n + 1) m us = Mc.go n (m.tk us).1.step (m.tk us).2 := fun us => by
        show (if m.word ≠ [] then _ else _) = _
        rw [if_neg (by simpa using hw)]
      have htk : m.tk ts = (m, ts) := by
        cases ts with
        | nil => rfl
        | cons t r =>
          have hne : ¬ t.1 = m.steps := fun he => by
            refine h t (by simp) ?_
            rw [e1]
            have hs := m.tk_same (t :: r)
            have h1 := Mc.step_steps (m.tk (t :: r)).1 (by rw [hs.2.2.1]; exact hw)
            have h2 := Mc.go_mono n (m.tk (t :: r)).1.step (m.tk (t :: r)).2
            rw [h1, hs.2.1] at h2
            omega
          simp [Mc.tk, hne]
      have h0 : m.tk [] = (m, []) := rfl
      rw [e1, e1, htk, h0]
      refine Mc.go_late n m.step ts fun t ht => ?_
      have := h t ht
      rw [e1, htk] at this
      exact this
    · have e1 : ∀ us, Mc.go (n + 1) m us = m := fun us => by
        show (if m.word ≠ [] then _ else _) = _
        rw [if_pos hw]
      rw [e1, e1]
/-- the step of the last turn that was done -/
def lastT (ts : List Turn) (s : Nat) : Nat := ts.foldl (fun l t => if t.1 < s then t.1 else l) 0
theorem lastT_filter (s : Nat) : ∀ (ts : List Turn) (l : Nat), ts.foldl (fun l t => if t.1 < s then t.1 else l) l = ((ts.filter fun t => decide (t.1 < s)).map (·.1)).getLast?.getD l
  | [], l => rfl
  | t :: ts, l => by
    rw [List.foldl_cons, lastT_filter s ts]
    by_cases h : t.1 < s
    · rw [if_pos h, List.filter_cons_of_pos (by simpa using h), List.map_cons]
      cases e : (ts.filter fun t => decide (t.1 < s)).map (·.1) with
      | nil => rfl
      | cons a r =>
        rw [List.getLast?_cons_cons, List.getLast?_eq_some_getLast (List.cons_ne_nil a r)]
        rfl
    · rw [if_neg h, List.filter_cons_of_neg (by simpa using h)]
theorem twinR_late (code : List RN) (args : List Nat) (ts : List Turn) (most : Nat) (h : twinR code args ts most ≠ twinR code args [] most) : ∃ t ∈ ts, t.1 < (twinR code args ts most).steps := by
  refine Classical.byContradiction fun hn => h ?_
  unfold twinR at *
  rw [Mc.go_late most (Mc.start code args) ts fun t ht hlt => hn ⟨t, ht, hlt⟩]
end Tg

namespace Tg
/-! ## rows without the places they go on to -/
inductive Hd where
  | num (d k n : Nat)
  | copy (d k i : Nat)
  | op (d s k i j : Nat)
  | out (i : Nat)
  | fork (i : Nat)
  | look (i : Nat)
  | mark
  | back (i : Nat)
def Hd.d : Hd → D
  | .num d k n => .tup [.str [110, 117, 109], .int d, .int k, .int n]
  | .copy d k i => .tup [.str [99, 111, 112, 121], .int d, .int k, .int i]
  | .op d s k i j => .tup [.str [111, 112], .int d, .str [s], .int k, .int i, .int j]
  | .out i => .tup [.str [111, 117, 116], .int i]
  | .fork i => .tup [.str [102, 111, 114, 107], .int i]
  | .look i => .tup [.str [108, 111, 111, 107], .int i]
  | .mark => .tup [.str [109, 97, 114, 107]]
  | .back i => .tup [.str [98, 97, 99, 107], .int i]
def Hd.row : Hd → Nat → Nat → RN
  | .num d k n, q, _ => .num d k n q
  | .copy d k i, q, _ => .copy d k i q
  | .op d s k i j, q, _ => .op d s k i j q
  | .out i, q, _ => .out i q
  | .fork i, q, p => .fork i q p
  | .look i, q, _ => .look i q
  | .mark, q, _ => .mark q
  | .back i, _, _ => .back i
def Hd.ok (h : Hd) : Prop := ∀ q p, (h.row q p).ok
def Hd.deed : Hd → Bool
  | .num _ _ _ => true
  | .copy _ _ _ => true
  | .op _ _ _ _ _ => true
  | _ => false
@[simp] theorem Hd.d_sh (r : Hd) : r.d.sh = true := by cases r <;> rfl
@[simp] theorem Hd.d_fz (r : Hd) : r.d.fz = r.d := by cases r <;> rfl
@[simp] theorem Hd.d_nf (r : Hd) : r.d.nf = true := by cases r <;> rfl
theorem Hd.d_hole (r : Hd) : r.d ≠ .hole := by cases r <;> (intro h; cases h)
@[simp] theorem varD_hd (r : Hd) : varD (some r.d) = some r.d := varD_of r.d_hole
/-- the places a row goes on to -/
def RN.ways : RN → List Nat
  | .num _ _ _ q => [q]
  | .copy _ _ _ q => [q]
  | .op _ _ _ _ _ q => [q]
  | .out _ q => [q]
  | .fork _ q p => [q, p]
  | .look _ q => [q]
  | .mark q => [q]
  | .back _ => []
def RN.within (n : Nat) (r : RN) : Prop := ∀ q ∈ r.ways, q < n
theorem Hd.within (h : Hd) {n q p : Nat} (hq : q < n) (hp : p < n) : (h.row q p).within n := by
  cases h <;> intro x hx <;> simp [Hd.row, RN.ways] at hx <;> first | (subst hx; exact hq) | (rcases hx with rfl | rfl; exact hq; exact hp)
/-! ### cuts of written lists -/
@[simp] theorem cut_to1 {α : Type} (x : α) (xs : List α) : cutD (x :: xs) none (some 1) = [x] := by
  unfold cutD cutI
  have : min (1 : Int).toNat (x :: xs).length = 1 := by simp
  simp
@[simp] theorem cut_from1 {α : Type} (x : α) (xs : List α) : cutD (x :: xs) (some 1) none = xs := by
  unfold cutD cutI
  simp
@[simp] theorem cut_but {α : Type} (xs : List α) (y : α) : cutD (xs ++ [y]) none (some (-1)) = xs := by
  unfold cutD cutI
  have e : (max (-1 + ((xs.length : Int) + 1)) 0).toNat = xs.length := by omega
  simp [e]
end Tg

namespace Tg
/-! ## dicts, sorted lists, more loops: by their arguments -/
@[simp] theorem gDG_d (o : Bool) (n : Nat) (ds : List (D × D)) (y : D) : gDG (.dic o n ds) y = if isKey n y then lookD y ds else none := (rfl)
@[simp] theorem isKey_int (i : Int) : isKey 0 (.int i) = true := (rfl)
@[simp] theorem isKey_str (x : List Nat) : isKey 0 (.str x) = true := (rfl)
@[simp] theorem isKey0_int (i : Int) : isKey0 (.int i) = true := (rfl)
@[simp] theorem isKey0_str (x : List Nat) : isKey0 (.str x) = true := (rfl)
@[simp] theorem isKey_tup (xs : List D) : isKey 1 (.tup xs) = xs.all isKey0 := (rfl)
@[simp] theorem eDNew_ev (n : Nat) (env : Env) : eDNew n env = some (.dic true n []) := (rfl)
@[simp] theorem sDPut_ev (i : Nat) (p : EP1) (k e : EE) (env : Env) : sDPut i p k e env = (e env).bind fun y => (p env).bind fun l => match getAt i l env with
  | some (.dic true n ds) => (k env).bind fun d => if isKey n d && decide (ds.length < line) && (y.sh || !(lookD d ds).isSome) then some (.nx (setAt i l (.dic true n (putD d y ds)) env)) else none
  | _ => none := (rfl)
@[simp] theorem eDGet2_ev (f g h : EE) (env : Env) : eDGet2 f g h env = (f env).bind fun x => match x with
  | .dic _ n ds => (g env).bind fun y => (h env).bind fun z => if isKey n y then some ((lookD y ds).getD z) else none
  | _ => none := (rfl)
@[simp] theorem dpNil_ev (env : Env) : dpNil env = some [] := (rfl)
@[simp] theorem dpCons_ev (k v : EE) (r : EPs) (env : Env) : dpCons k v r env = (k env).bind fun x => (v env).bind fun y => (r env).bind fun z => if isKey0 x && y.sh then some ((x, y) :: z) else none := (rfl)
@[simp] theorem eDisp_ev (r : EPs) (env : Env) : eDisp r env = (r env).bind fun ds => if nodupK ds && decide (ds.length ≤ 15) then some (.dic true 0 ds) else none := (rfl)
@[simp] theorem fz_dic (n : Nat) (ds : List (D × D)) : D.fz (.dic true n ds) = .dic false n (D.fzk ds) := (rfl)
@[simp] theorem fz_dicf (n : Nat) (ds : List (D × D)) : D.fz (.dic false n ds) = .dic false n ds := (rfl)
@[simp] theorem fzk_nil : D.fzk [] = [] := (rfl)
@[simp] theorem fzk_cons (k x : D) (r : List (D × D)) : D.fzk ((k, x) :: r) = (k, x.fz) :: D.fzk r := (rfl)
@[simp] theorem nf_dic (o : Bool) (n : Nat) (ds : List (D × D)) : D.nf (.dic o n ds) = (o && D.nfk ds) := (rfl)
@[simp] theorem nfk_nil : D.nfk [] = true := (rfl)
@[simp] theorem nfk_cons (k x : D) (r : List (D × D)) : D.nfk ((k, x) :: r) = (x.nf && D.nfk r) := (rfl)
@[simp] theorem gInA_d (x : D) (o : Bool) (n : Nat) (ds : List (D × D)) : gInA x (.dic o n ds) = if isKey n x then some (.bl (lookD x ds).isSome) else none := (rfl)
@[simp] theorem gNotInA_d (x : D) (o : Bool) (n : Nat) (ds : List (D × D)) : gNotInA x (.dic o n ds) = if isKey n x then some (.bl (!(lookD x ds).isSome)) else none := (rfl)
theorem gIn_l {x : D} {o : Bool} {xs : List D} (h : flat x = true) (h2 : xs.all flat = true) : gIn x (.lst o xs) = some (.bl (xs.any fun y => D.eqv y x)) := by
  unfold gIn inD
  split
  · rename_i e
    cases e
  · rename_i e
    cases e
  · rename_i e
    cases e
    rw [h, h2]; rfl
  · rename_i h1 h3 h4
    first | exact absurd rfl (h4 o xs) | exact absurd rfl (h3 o xs) | exact absurd rfl (h1 o xs)
theorem gInA_l {x : D} {o : Bool} {xs : List D} (h : flat x = true) (h2 : xs.all flat = true) : gInA x (.lst o xs) = some (.bl (xs.any fun y => D.eqv y x)) := by
  show (if flat x && xs.all flat then gIn x (.lst o xs) else gInL x (.lst o xs)) = _
  rw [h, h2]
  exact gIn_l h h2
theorem gInA_deep {x : D} {o : Bool} {xs : List D} (h : flat x = false) (h1 : x.eqok 60 = true) (h2 : (D.lst o xs).eqok 60 = true) : gInA x (.lst o xs) = some (.bl (xs.any fun y => D.eqv y x)) := by
  show (if flat x && xs.all flat then _ else gInL x (.lst o xs)) = _
  rw [h, Bool.false_and, if_neg (by decide)]
  show (if x.eqok 60 && (D.lst o xs).eqok 60 then _ else _) = _
  rw [h1, h2]
  rfl
theorem gNotInA_deep {x : D} {o : Bool} {xs : List D} (h : flat x = false) (h1 : x.eqok 60 = true) (h2 : (D.lst o xs).eqok 60 = true) : gNotInA x (.lst o xs) = some (.bl (!xs.any fun y => D.eqv y x)) := by
  show (if flat x && xs.all flat then _ else gNotInL x (.lst o xs)) = _
  rw [h, Bool.false_and, if_neg (by decide)]
  show (if x.eqok 60 && (D.lst o xs).eqok 60 then _ else _) = _
  rw [h1, h2]
  rfl
theorem gSortedSet_ints (o : Bool) (ns : List Int) (h : ns.length < 63) : gSortedSet (.lst o (ns.map .int)) = some (.lst true ((sortU ns).map .int)) := by
  show (intsD (ns.map .int)).bind _ = _
  rw [intsD_map, Option.bind_some, if_pos h]
theorem gSortedA_ints (o : Bool) (ns : List Int) : gSortedA (.lst o (ns.map .int)) = some (.lst true ((sortI ns).map .int)) := by
  show (match intsD (ns.map .int) with | some ns => _ | none => _) = _
  rw [intsD_map]
@[simp] theorem iZip_ev (a b : EE) (env : Env) : iZip a b env = (a env).bind fun d => (b env).bind fun e => match d, e with
  | .lst _ xs, .lst _ ys => if D.shs xs && D.shs ys then some (List.zipWith (fun x y => .tup [x, y]) xs ys) else none
  | _, _ => none := (rfl)
theorem sAppV_v (i : Nat) (m : EM) (env : Env) : sAppV i m env = (match env[i]? with
  | some (.lst true xs) => (m (env.set i .hole)).bind fun x => if i < x.2.length ∧ xs.length < line then some (.nx (x.2.set i (.lst true (xs ++ [x.1])))) else none
  | _ => none) := (rfl)
@[simp] theorem sPar_ev (i j : Nat) (fs : EA) (env : Env) : sPar i j fs env = (fs env).bind fun ds => match ds with
  | [x, y] => if x.sh && y.sh && decide (i < env.length) && decide (j < env.length) then some (.nx ((env.set i x).set j y)) else none
  | _ => none := (rfl)
/-- a loop that appends to a list -/
theorem sFor_flat {α : Type} (enc : α → D) (out : α → List D) (mk : List D → Env) (B : Nat) {tg : TgT} {body : SS} : ∀ (xs : List α) (acc : List D), (∀ acc x, x ∈ xs → acc.length + (out x).length ≤ B → ∃ e1, tg (enc x) (mk acc) = some e1 ∧ body e1 = some (.nx (mk (acc ++ out x)))) →
    acc.length + (xs.flatMap out).length ≤ B → sFor tg body (xs.map enc) (mk acc) = some (.nx (mk (acc ++ xs.flatMap out)))
  | [], acc, _, _ => by simp
  | x :: xs, acc, h, hb => by
    rw [List.flatMap_cons, List.length_append] at hb
    obtain ⟨e1, h1, h2⟩ := h acc x List.mem_cons_self (by omega)
    rw [List.map_cons, sFor_cons, h1, Option.bind_some, h2]
    show sFor tg body (xs.map enc) (mk (acc ++ out x)) = _
    rw [sFor_flat enc out mk B xs (acc ++ out x) (fun acc y hy => h acc y (List.mem_cons_of_mem _ hy)) (by rw [List.length_append]; omega), List.flatMap_cons, List.append_assoc]
/-- a loop that looks at each: all pass -/
theorem sFor_all {α : Type} (enc : α → D) (env0 : Env) {tg : TgT} {body : SS} : ∀ (xs : List α), (∀ x ∈ xs, ∃ e1, tg (enc x) env0 = some e1 ∧ body e1 = some (.nx env0)) → sFor tg body (xs.map enc) env0 = some (.nx env0)
  | [], _ => rfl
  | x :: xs, h => by
    obtain ⟨e1, h1, h2⟩ := h x List.mem_cons_self
    rw [List.map_cons, sFor_cons, h1, Option.bind_some, h2]
    exact sFor_all enc env0 xs fun y hy => h y (List.mem_cons_of_mem _ hy)
/-! ## rows: what they read, what they give -/
def RN.rd0 : RN → List Nat
  | .num _ _ _ _ => []
  | .copy _ _ i _ => [i]
  | .op _ _ _ i j _ => [i, j]
  | .out i _ => [i]
  | .fork i _ _ => [i]
  | .look i _ => [i]
  | .mark _ => []
  | .back i => [i]
def RN.gv0 : RN → Option Nat
  | .num _ k _ _ => some k
  | .copy _ k _ _ => some k
  | .op _ _ k _ _ _ => some k
  | _ => none
def RN.sideN : RN → Nat
  | .num d _ _ _ => d
  | .copy d _ _ _ => d
  | .op d _ _ _ _ _ => d
  | _ => 2
def RN.sides (r : RN) : List Nat := if r.sideN < 2 then [r.sideN] else [0, 1]
def dedup2 : List Nat → List Nat
  | [i, j] => if i < j then [i, j] else if i = j then [j] else [j, i]
  | l => l
abbrev Spot := Nat × Nat
def spD (s : Spot) : D := .tup [.int s.1, .int s.2]
def RN.rd (r : RN) : List Spot := r.sides.flatMap fun s => (dedup2 r.rd0).map fun b => (s, b)
def RN.gv (r : RN) : List Spot := match r.gv0 with
  | some k => r.sides.map fun s => (s, k)
  | none => []
@[simp] theorem spD_sh (s : Spot) : (spD s).sh = true := rfl
@[simp] theorem spD_fz (s : Spot) : (spD s).fz = spD s := rfl
@[simp] theorem spD_nf (s : Spot) : (spD s).nf = true := rfl
@[simp] theorem spDs_shs (xs : List Spot) : D.shs (xs.map spD) = true := shs_map _ spD_sh xs
@[simp] theorem spDs_fzs (xs : List Spot) : D.fzs (xs.map spD) = xs.map spD := fzs_map _ spD_fz xs
@[simp] theorem spDs_nfs (xs : List Spot) : D.nfs (xs.map spD) = true := nfs_map _ spD_nf xs
@[simp] theorem varD_sp (s : Spot) : varD (some (spD s)) = some (spD s) := rfl
theorem RN.rd0_len (r : RN) : r.rd0.length ≤ 2 := by cases r <;> simp [RN.rd0]
theorem dedup2_len (l : List Nat) : (dedup2 l).length ≤ l.length := by
  unfold dedup2
  split
  · split
    · simp
    · split <;> simp
  · exact Nat.le_refl _
theorem sortU_two (l : List Nat) (h : l.length ≤ 2) : sortU (l.map fun (n : Nat) => (n : Int)) = (dedup2 l).map fun (n : Nat) => (n : Int) := by
  match l, h with
  | [], _ => rfl
  | [a], _ => rfl
  | [a, b], _ =>
    show insU (a : Int) (insU (b : Int) []) = _
    have e : dedup2 [a, b] = if a < b then [a, b] else if a = b then [b] else [b, a] := rfl
    rw [e]
    show (if (a : Int) < b then [(a : Int), b] else if (a : Int) = b then [(b : Int)] else (b : Int) :: insU a []) = _
    by_cases h1 : a < b
    · rw [if_pos (by omega), if_pos h1]; rfl
    · rw [if_neg (by omega), if_neg h1]
      by_cases h2 : a = b
      · rw [if_pos (by omega), if_pos h2]; rfl
      · rw [if_neg (by omega), if_neg h2]; rfl
theorem sorted_two (o : Bool) (l : List Nat) (h : l.length ≤ 2) : gSortedSet (.lst o (l.map nD)) = some (.lst true ((dedup2 l).map nD)) := by
  rw [nDs_ints, gSortedSet_ints o _ (by rw [List.length_map]; omega), sortU_two l h, nDs_ints]
theorem RN.sides_len (r : RN) : r.sides.length ≤ 2 := by unfold RN.sides; split <;> simp
theorem RN.rd_len (r : RN) : r.rd.length ≤ 4 := by
  have h1 := r.sides_len
  have h2 := r.rd0_len
  have h3 := dedup2_len r.rd0
  unfold RN.rd
  match r.sides, h1 with
  | [], _ => simp
  | [a], _ => simp; omega
  | [a, b], _ => simp; omega
theorem RN.gv_len (r : RN) : r.gv.length ≤ 2 := by
  have h1 := r.sides_len
  unfold RN.gv
  split
  · simpa using h1
  · simp
theorem spD_eqok (s : Spot) (n : Nat) : (spD s).eqok (n + 1) = true := by simp [spD, D.eqok, D.eqoks]
theorem spDs_eqoks (xs : List Spot) (n : Nat) : D.eqoks (n + 1) (xs.map spD) = true := eqoks_map _ _ (fun s => spD_eqok s n) xs
theorem eqv_spD (a b : Spot) : D.eqv (spD a) (spD b) = decide (a = b) := by
  show (((a.1 : Int) == (b.1 : Int)) && (((a.2 : Int) == (b.2 : Int)) && true)) = _
  obtain ⟨a1, a2⟩ := a
  obtain ⟨b1, b2⟩ := b
  by_cases h1 : a1 = b1
  · by_cases h2 : a2 = b2
    · simp [h1, h2]
    · have : ((a2 : Int) == (b2 : Int)) = false := by simp; omega
      simp [h1, h2, this]
  · have : ((a1 : Int) == (b1 : Int)) = false := by simp; omega
    simp [h1, this]
theorem eqvs_spDs (a b : List Spot) : D.eqvs (a.map spD) (b.map spD) = decide (a = b) := by
  induction a generalizing b with
  | nil => cases b <;> simp [D.eqvs]
  | cons x a ih =>
    cases b with
    | nil => simp [D.eqvs]
    | cons y b =>
      show (D.eqv (spD x) (spD y) && D.eqvs (a.map spD) (b.map spD)) = _
      rw [ih, eqv_spD]
      by_cases h : x = y <;> simp [h]
theorem gEq_spDs (o o' : Bool) (a b : List Spot) : gEq (.lst o (a.map spD)) (.lst o' (b.map spD)) = some (.bl (decide (a = b))) := by
  rw [gEq_of (by show D.eqoks 59 _ = true; exact spDs_eqoks a 58) (by show D.eqoks 59 _ = true; exact spDs_eqoks b 58)]
  show some (D.bl (D.eqvs _ _)) = _
  rw [eqvs_spDs]
theorem gNe_spDs (o o' : Bool) (a b : List Spot) : gNe (.lst o (a.map spD)) (.lst o' (b.map spD)) = some (.bl (!decide (a = b))) := by
  rw [gNe_of (by show D.eqoks 59 _ = true; exact spDs_eqoks a 58) (by show D.eqoks 59 _ = true; exact spDs_eqoks b 58)]
  show some (D.bl (!D.eqvs _ _)) = _
  rw [eqvs_spDs]
theorem gEq_nDs (o o' : Bool) (a b : List Nat) : gEq (.lst o (a.map nD)) (.lst o' (b.map nD)) = some (.bl (decide (a = b))) := by
  rw [gEq_of (by show D.eqoks 59 _ = true; exact nDs_eqoks 59 a) (by show D.eqoks 59 _ = true; exact nDs_eqoks 59 b)]
  show some (D.bl (D.eqvs _ _)) = _
  rw [eqvs_nDs]
theorem gNe_nDs (o o' : Bool) (a b : List Nat) : gNe (.lst o (a.map nD)) (.lst o' (b.map nD)) = some (.bl (!decide (a = b))) := by
  rw [gNe_of (by show D.eqoks 59 _ = true; exact nDs_eqoks 59 a) (by show D.eqoks 59 _ = true; exact nDs_eqoks 59 b)]
  show some (D.bl (!D.eqvs _ _)) = _
  rw [eqvs_nDs]
theorem anyEqv_spD (xs : List Spot) (s : Spot) : ((xs.map spD).any fun y => D.eqv y (spD s)) = decide (s ∈ xs) := by
  induction xs with
  | nil => simp
  | cons x xs ih =>
    rw [List.map_cons, List.any_cons, ih, eqv_spD]
    by_cases h : x = s
    · subst h; simp
    · have : ¬ s = x := fun e => h e.symm
      simp [h, this]
theorem fzs_comp {α : Type} (f : α → D) (xs : List α) : D.fzs (xs.map f) = xs.map fun x => (f x).fz := by
  induction xs with
  | nil => rfl
  | cons x r ih => show (f x).fz :: D.fzs (r.map f) = _; rw [ih]; rfl
theorem shs_lists {α : Type} (f : α → List D) (xs : List α) : D.shs (xs.map fun x => D.lst false (f x)) = true := shs_map _ (fun _ => rfl) xs
theorem lists_fz (g : RN → List Nat) (rs : List RN) : D.fzs (rs.map fun r => D.lst true ((g r).map nD)) = rs.map fun r => D.lst false ((g r).map nD) := by
  rw [fzs_comp]
  apply List.map_congr_left
  intro r _
  simp
@[simp] theorem eFz_ev (f : EE) (env : Env) : eFz f env = (f env).map D.fz := (rfl)
@[simp] theorem gListRevT_l (o : Bool) (xs : List D) : gListRevT (.lst o xs) = if D.shs xs then some (.lst true xs.reverse) else none := (rfl)
@[simp] theorem gListRevT_t (xs : List D) : gListRevT (.tup xs) = if D.shs xs then some (.lst true xs.reverse) else none := (rfl)
@[simp] theorem iZipU_ev (a b : EE) (env : Env) : iZipU a b env = (a env).bind fun d => (b env).bind fun e => match d, e with
  | .lst _ xs, .lst _ ys => if D.shs xs && D.shs ys then some (List.zipWith (fun x y => .tup [x, y]) xs ys) else none
  | .tup xs, .lst _ ys => if D.shs xs && D.shs ys then some (List.zipWith (fun x y => .tup [x, y]) xs ys) else none
  | _, _ => none := by
  unfold iZipU iZip iZipTL
  cases a env with
  | none => rfl
  | some d =>
    cases b env with
    | none => rfl
    | some e =>
      cases d <;> cases e <;> first | rfl | skip
      simp only [Option.bind_some]
      split <;> simp_all
end Tg

namespace Tg
open PySem PySem.Spec L2 RT RZ PyProof.Rows
/-! ### enumerate of a tuple -/
theorem meets_enumT {v : Value} {o : PySem.Obj} {H : Heap → Prop} (B : Begins v o H) :
    Meets (Builtin.«enumerate.__new__» ⟨[.type "enumerate", v], []⟩) (fun _ R s => H s.heap ∧
      R (.ok (.ret (.ref (s.heap.push o).objs.size))) { s with heap := (s.heap.push o).push { cls := .type "enumerate", data := .fields #[.none, .bool false, .ref s.heap.objs.size, rawInt 0, .none, .none] } }) :=
  .of_wp fun prog w A R s h => by
    obtain ⟨hp, g, d, tk, os⟩ := s; obtain ⟨h1, h⟩ := h
    have hsub := sub_enumerate
    have q1 : ∀ {A' : Around} {E : Value → Shared → Prop} {Q : Value → Shared → Prop}, Q (.ref hp.objs.size) ⟨hp.push o, g, d, tk, os⟩ → wpAny (model prog w) A' (pyIter v) Q E ⟨hp, g, d, tk, os⟩ :=
      fun q => B.iter prog w _ _ ⟨hp, g, d, tk, os⟩ _ h1 q
    wp_walk using q1
    refine wpAny_stack_any fun st => wpAny_pure ?_
    split
    · rename_i c _ _ _ _ _
      cases (c == Value.type "enumerate")
      · wp_walk using q1
        exact ⟨_, rfl, h⟩
      · wp_walk using q1
        exact ⟨_, rfl, h⟩
    · wp_walk using q1
      exact ⟨_, rfl, h⟩
theorem call_enumT {prog : Program} {w : World} {A : Around} {E : Value → Shared → Prop} {s : Shared} {v : Value} {o : PySem.Obj} {H : Heap → Prop} {Q : Value → Shared → Prop} (B : Begins v o H) (h1 : H s.heap)
    (h : ∀ h', IsEnum h' (s.heap.objs.size + 1) s.heap.objs.size 0 .none → h'.get? s.heap.objs.size = some o → h'.objs.size = s.heap.objs.size + 2 →
      (∀ b o, s.heap.get? b = some o → h'.get? b = some o) → Q (.ref (s.heap.objs.size + 1)) { s with heap := h' }) :
    wpAny (model prog w) A (call (.type "enumerate") [v]) Q E s := by
  refine callType_new F.called_enumerate (by decide) (F.typeCall_enumerate_1 _) (F.newCall_enumerate_1 _) (fun obj => F.args_object_init_2 obj _) F.entry_enumerate_new
    (meets_enumT B) ⟨h1, ?_⟩
  have hz : (s.heap.push o).objs.size = s.heap.objs.size + 1 := Heap.size_push ..
  show _ ∧ _
  rw [hz]
  have he : IsEnum ((s.heap.push o).push { cls := .type "enumerate", data := .fields #[.none, .bool false, .ref s.heap.objs.size, rawInt 0, .none, .none] }) (s.heap.objs.size + 1) s.heap.objs.size 0 .none := by
    have := Heap.get?_push_size (s.heap.push o) (o := { cls := .type "enumerate", data := .fields #[.none, .bool false, .ref s.heap.objs.size, rawInt 0, .none, .none] }) rfl
    rw [hz] at this; exact this
  refine ⟨⟨_, he, rfl⟩, h _ he (Heap.get?_push_of_some _ (Heap.get?_push_size _ B.free)) (by rw [Heap.size_push, hz]) fun b o x => Heap.get?_push_of_some _ (Heap.get?_push_of_some _ x)⟩
/-- the tuple at a, each item in a new pair -/
def ItEt (K : PySem.W.Frag) (a : Addr) : L2.It :=
  ⟨fun i H => ∃ (xs : List V) (x : V), SqT K H a xs ∧ xs[i]? = some x, fun i H v H' => ∃ T x, v = .ref T ∧ H T = none ∧ H' = upd H T (.tup [.int (i : Nat), x]) ∧ ∀ xs, SqT K H a xs → xs[i]? = some x, fun i H => ∃ xs : List V, SqT K H a xs ∧ i = xs.length⟩
theorem turn_enumT {P : Program} {w : World} {K : PySem.W.Frag} {elts : List Expr} {kk : Nat} {tpos : Pos} {a e it : Addr} (hai : a ≠ it) (hea : e ≠ a) :
    L2.Turn P w K (.Tuple elts kk tpos) (ItEt K a) [e, it] e (fun i h => (∃ old, IsEnum h e it ((i : Nat) : Int) old) ∧ h.IsTupleIter it a i ∧ e ≠ it) where
  mem := by simp
  obj := fun i h st b hb => by
    obtain ⟨⟨old, he⟩, ⟨o, ho, hc, hd⟩, _⟩ := st
    have e' : b = e ∨ b = it := by simpa using hb
    rcases e' with z | z
    · rw [z]; exact ⟨_, he, fun v q => nomatch q⟩
    · rw [z]; exact ⟨o, ho, fun v q => by rw [hd] at q; cases q⟩
  keep := fun i h h' st k => let ⟨⟨old, he⟩, hi, hne⟩ := st; ⟨⟨old, k e (by simp) _ he⟩, hi.at fun o q => k it (by simp) o q, hne⟩
  item := by
    intro X hP hw hK hc i pins s σ H E I hf st hg
    subst hP hw hK
    obtain ⟨⟨old, he⟩, hit, hne⟩ := st
    obtain ⟨xs, x, hq, hx⟩ := hg
    obtain ⟨its, rv, p, hz⟩ := I.tuple hq
    obtain ⟨u, hu, ru⟩ := rv.get hx
    have hel : e < s.heap.objs.size := Heap.lt_size he
    have hil : it < s.heap.objs.size := by obtain ⟨_, q, _⟩ := hit; exact Heap.lt_size q
    have hn : X.A.handled = none := I.ok.hd hc
    have hlt : i < its.toArray.size := by
      have := (List.getElem?_eq_some_iff.mp hu).1
      simpa using this
    refine wpAny_pyNext_enum_itemD (Draws.tuple (A := X.A.in1) hn it a hai its.toArray) he ⟨hit, p⟩ hlt hne (by simp only [List.mem_cons, List.not_mem_nil, or_false, not_or]; exact ⟨hne, hea⟩) fun u' h' tk hp ho hit' hT hsz hk => ?_
    have eu : u' = u := by
      have q : its[i]? = some u' := by simpa using hp
      rw [hu] at q
      exact (Option.some.inj q).symm
    subst eu
    refine ⟨_, rfl, wpAny_letOwnedTupleGo_enum (s := { s with heap := h', toks := tk + 1 }) ho fun h'' he' sb => ?_⟩
    have hT2 : h''.get? s.heap.objs.size = some { cls := .type "tuple", data := .seq #[.int i tk, u'] } := (sb.2 _ (Nat.ne_of_gt hel)).trans hT
    have new : ObjOk X.prog X.w (upd H s.heap.objs.size (.tup [.int (i : Nat), x])) h'' s.heap.objs.size (.tup [.int (i : Nat), x]) :=
      ⟨by show 2 ≤ sizeLine; decide, [.int i tk, u'], .cons ⟨_, rfl⟩ (.cons ru .nil), ⟨_, hT2, rfl, _, rfl⟩⟩
    have I1 : Inv X pins σ (upd H s.heap.objs.size (.tup [.int (i : Nat), x])) { s with heap := h'', toks := tk + 1 } :=
      I.turnedNew (ch := [e, it]) (fun b ob hb q => (sb.2 b (fun z => hb (by simp [z]))).trans (hk b ob (fun z => hb (by simp [z])) (fun z => hb (by simp [z])) q)) hf (Nat.le_refl _) new
    refine ⟨.ref s.heap.objs.size, _, I1, rfl, ⟨_, x, rfl, I.hok.fresh (Nat.le_refl _), rfl, fun ys hy => by rw [I.tuple_inj hy hq]; exact hx⟩, ⟨⟨u', ?_⟩, hit'.1.at fun o q => (sb.2 it (Ne.symm hne)).trans q, hne⟩, fun b hb => ?_⟩
    · have e1 : ((i + 1 : Nat) : Int) = (i : Int) + 1 := by omega
      rw [e1]; exact he'
    · have hb' : b < s.heap.objs.size := by
        have e' : b = e ∨ b = it := by simpa using hb
        rcases e' with z | z
        · rw [z]; exact hel
        · rw [z]; exact hil
      rw [upd_ne (Nat.ne_of_lt hb')]
      exact (hf b hb).1
  done := by
    intro X hP hw hK hc i pins s σ H E I hf st hg
    subst hP hw hK
    obtain ⟨⟨old, he⟩, hit, hne⟩ := st
    obtain ⟨xs, hq, hx⟩ := hg
    obtain ⟨its, rv, p, hz⟩ := I.tuple hq
    obtain ⟨f0, f1, f2, f3, f4, f5⟩ := hf it (by simp)
    have hn : X.A.handled = none := I.ok.hd hc
    have hl : its.toArray.size = i := by rw [List.size_toArray, ← rv.length, hx]
    exact wpAny_pyNext_enum_endD (Draws.tuple (A := X.A.in1) hn it a hai its.toArray) he ⟨by rw [hl]; exact hit, p⟩ fun h' eb => ⟨rfl, I.turned (t' := s.toks) (fun b o hb q => eb b o hb q) f0 f1 f3 f4 f5⟩
  self := fun A i s Q E st h => let ⟨⟨_, he⟩, _⟩ := st; wpAny_pyIter_enum he h
def iEnumMT (K : PySem.W.Frag) (ta : TA) : L2.TI := fun σ H R => ta σ H fun vs H1 => ∃ a xs, vs = [.ref a] ∧ SqT K H1 a xs ∧ R (ItEt K a) H1
theorem pi_enumT {X : Cx} {e : Expr} {ta : TA} {p pos tpos : Pos} {elts : List Expr} {kk : Nat} (hg : Gl X "enumerate") (hm : X.mg "enumerate" = none) (ha : PA X [e] ta) (hs : starEach [e] X.env = [(false, eval e X.env)] := by rfl) :
    PI X (.Tuple elts kk tpos) (.Call (.Name "enumerate" p) [e] [] pos) (iEnumMT X.K ta) := by
  refine ⟨fun pins s σ H R I h => ?_⟩
  refine Call_ (ld_blt I hg hm boot_enumerate (PyProof.Rows.callWith_type1 (thn (ha.run pos pins s σ H _ I h) fun us s1 ⟨vs, H1, I1, r1, q1⟩ => ?_) hs rfl))
  obtain ⟨a, xs, ex, hq, q⟩ := q1
  subst ex
  cases r1 with
  | cons r rr =>
    cases rr
    cases r
    obtain ⟨its, rv, p', hz⟩ := I1.tuple hq
    have hal : a < s1.heap.objs.size := IsTup.lt p'
    refine call_enumT (begins_tuple a its.toArray) p' fun h' he hit hsz hk => wpAny_pyIter_enum he ?_
    have I2 : Inv X pins σ H1 { s1 with heap := h' } := I1.kept (t' := s1.toks) hk
    refine ⟨s1.heap.objs.size + 1, [s1.heap.objs.size + 1, s1.heap.objs.size], _, _, H1, rfl, I2, turn_enumT (a := a) (e := s1.heap.objs.size + 1) (it := s1.heap.objs.size) (Nat.ne_of_lt hal) (Nat.ne_of_gt (Nat.lt_succ_of_lt hal)), ⟨⟨.none, he⟩, ⟨_, hit, rfl, rfl⟩, Nat.succ_ne_self _⟩, fun b hb => ?_, q⟩
    have e' : b = s1.heap.objs.size + 1 ∨ b = s1.heap.objs.size := by simpa using hb
    have hle : s1.heap.objs.size ≤ b := by
      rcases e' with z | z
      · rw [z]; exact Nat.le_add_right _ _
      · rw [z]; exact Nat.le_refl _
    exact I1.fpOk hle (I1.hok.fresh hle)
theorem walk_enumT {K : PySem.W.Frag} {a : Addr} {xs : List V} : Walk (ItEt K a) xs.length (fun H => SqT K H a xs) (YPair (fun i => some (.int (i : Nat))) (fun i => xs[i]?)) := by
  refine ⟨fun i _ hi q => ⟨xs, xs[i], q, by simp [hi]⟩, fun _ q => ⟨xs, q, rfl⟩, fun i H v H' _ q y => ?_⟩
  obtain ⟨T, x, h1, h2, h3, h4⟩ := y
  exact ⟨T, .int (i : Nat), x, h1, h2, h3, rfl, h4 xs q⟩
def iEnumT (a : EE) : It := fun env => (a env).bind fun d => match d with
  | .tup xs => if D.shs xs then some ((List.range xs.length).zipWith (fun (k : Nat) x => .tup [.int (k : Int), x]) xs) else none
  | _ => none
section
variable {X : Cx} {cl : Cl} {f : EE} {a : Expr} {pos : Pos}
theorem ii_enumT {elts : List Expr} {kk : Nat} {tpos p : Pos} (ha : Se X cl a f) (hg : Gl X "enumerate") (hm : X.mg "enumerate" = none) (h1 : starEach [a] X.env = (false, eval a X.env) :: starEach [] X.env := by rfl) (hs : starEach [a] X.env = [(false, eval a X.env)] := by rfl) :
    Ii X cl (.Tuple elts kk tpos) (.Call (.Name "enumerate" p) [a] [] pos) (iEnumT f) := ⟨fun W env ds q σ H E V => by
  unfold iEnumT at q
  obtain ⟨d, e1, q1⟩ := bind1 q
  split at q1
  · rename_i xs
    split at q1
    · rename_i hsh
      cases q1
      refine ⟨_, pi_enumT hg hm (pa_cons pe_w pa_nil h1) hs, fun R k => ?_⟩
      refine ha.run W env _ e1 σ H E V _ fun v H1 F s1 o1 n1 f1 => ?_
      obtain ⟨p, vs, rfl, hp, hv⟩ := own_tup o1
      have hv' : Owns X.K cl W H1 vs xs [] := (hv.shs hsh).weak fun a ha => List.mem_append_right _ ha
      have sq1 : SqT X.K H1 p vs := sqtSame (Same.refl H1) hp
      refine ⟨p, vs, rfl, sq1, ?_⟩
      have hl : ((List.range xs.length).zipWith (fun (k : Nat) x => Tg.D.tup [.int (k : Int), x]) xs).length = vs.length := by simp [hv.length]
      refine k (ItEt X.K p) H1 (fun H => SqT X.K H p vs) _ s1 (by rw [hl]; exact walk_enumT) (fun W2 H2 kp => kp.sqt sq1) fun i x H2 H3 W2 d kp y hd => ?_
      obtain ⟨T, x1, y1, rfl, hT, rfl, hx1, hy1⟩ := y
      cases hx1
      rw [List.getElem?_zipWith] at hd
      cases hi : xs[i]? with
      | none => rw [hi] at hd; simp at hd
      | some di =>
        have hil : i < xs.length := (List.getElem?_eq_some_iff.mp hi).1
        rw [hi] at hd
        simp [List.getElem?_range hil] at hd
        subst hd
        obtain ⟨w, Gw, g1, g2, g3⟩ := hv'.get hi
        have : Gw = [] := List.eq_nil_iff_forall_not_mem.mpr fun a ha => nomatch g3 a ha
        subst this
        have hy1' : vs[i]? = some y1 := hy1
        rw [hy1'] at g1
        cases g1
        refine ⟨same_new hT, .tup upd_same (Owns.cons (F := []) (G := []) (.int _) (Owns.cons (F := []) (G := []) ((g2.keep kp).mono (same_new hT)) .nil))⟩
    · cases q1
  · cases q1⟩
/-- enumerate of a list or a tuple -/
def iEnumU (a : EE) : It := fun env => match iEnum a env with
  | some r => some r
  | none => iEnumT a env
theorem ii_enumU {elts : List Expr} {kk : Nat} {tpos p : Pos} (ha : Se X cl a f) (hg : Gl X "enumerate") (hm : X.mg "enumerate" = none) (h1 : starEach [a] X.env = (false, eval a X.env) :: starEach [] X.env := by rfl) (hs : starEach [a] X.env = [(false, eval a X.env)] := by rfl) :
    Ii X cl (.Tuple elts kk tpos) (.Call (.Name "enumerate" p) [a] [] pos) (iEnumU f) := ⟨fun W env ds q σ H E V => by
  unfold iEnumU at q
  split at q
  · rename_i r e
    cases q
    exact (ii_enum ha hg hm h1 hs).run W env _ e σ H E V
  · exact (ii_enumT ha hg hm h1 hs).run W env _ q σ H E V⟩
end
@[simp] theorem iEnumU_ev (a : EE) (env : Env) : iEnumU a env = (a env).bind fun d => match d with
  | .lst _ xs => if D.shs xs then some ((List.range xs.length).zipWith (fun (k : Nat) x => .tup [.int (k : Int), x]) xs) else none
  | .tup xs => if D.shs xs then some ((List.range xs.length).zipWith (fun (k : Nat) x => .tup [.int (k : Int), x]) xs) else none
  | _ => none := by
  unfold iEnumU iEnum iEnumT
  cases a env with
  | none => rfl
  | some d =>
    cases d <;> first | rfl | skip
    simp only [Option.bind_some]
    split <;> simp_all
end Tg

namespace Tg
open PySem PySem.Spec L2 RT RZ PyProof.Rows
/-! ### the script's slice with a step -/
/-- the places of a slice -/
def stepIx (lo hi st : Int) (n : Nat) : List Nat := sliceRange (sliceBounds (some lo) (some hi) (some st) n).1 (sliceBounds (some lo) (some hi) (some st) n).2.1 (sliceBounds (some lo) (some hi) (some st) n).2.2
def stepD {α : Type} (lo hi st : Int) (xs : List α) : List α := (stepIx lo hi st xs.length).filterMap fun i => xs[i]?
theorem vals_pick {xs : List L2.V} {its : List Value} (r : Vals xs its) : ∀ is : List Nat, Vals (is.filterMap fun i => xs[i]?) (is.filterMap fun i => its[i]?)
  | [] => .nil
  | i :: is => by
    have ih := vals_pick r is
    have hl := r.length
    cases h : xs[i]? with
    | none =>
      have h2 : its[i]? = none := by
        rw [List.getElem?_eq_none_iff] at h ⊢
        omega
      rw [List.filterMap_cons, List.filterMap_cons, h, h2]
      exact ih
    | some x =>
      obtain ⟨u, hu, ru⟩ := r.get h
      rw [List.filterMap_cons, List.filterMap_cons, h, hu]
      exact .cons ru ih
theorem map_pick {α β : Type} (f : α → β) (lo hi st : Int) (xs : List α) : stepD lo hi st (xs.map f) = (stepD lo hi st xs).map f := by
  unfold stepD
  rw [List.length_map, List.map_filterMap]
  congr 1
  funext i
  rw [List.getElem?_map]
def tStep (K : PySem.W.Frag) (lo hi st : Int) (te : TE) : TE := fun σ H Q => te σ H fun x H1 => ∃ a xs, x = .ref a ∧ SqL K H1 a xs ∧ ∀ p, H1 p = none → (stepD lo hi st xs).length ≤ sizeLine → Q (.ref p) (upd H1 p (.lst (stepD lo hi st xs)))
theorem pe_step {X : Cx} {e : Expr} {te : TE} {lo hi st : Int} {k1 k2 k3} {p1 p2 p3 p4 pos : Pos} (he : PE X e te) (h0 : st ≠ 0) :
    PE X (.Subscript e (.Slice (some (.Constant (.int lo) k1 p1)) (some (.Constant (.int hi) k2 p2)) (some (.Constant (.int st) k3 p3)) p4) pos) (tStep X.K lo hi st te) := by
  refine ⟨fun pins s σ H Q I h => ?_⟩
  refine Subscript_ (thn (he.run pins s σ H _ I h) fun v s1 ⟨x, H1, I1, r1, q1⟩ => ?_)
  obtain ⟨a, xs, ex, hx, q⟩ := q1
  subst ex
  cases r1
  have hlo : PO X (some (.Constant (.int lo) k1 p1)) (tPart (tC (.int lo))) := po_some pe_int
  have hhi : PO X (some (.Constant (.int hi) k2 p2)) (tPart (tC (.int hi))) := po_some pe_int
  have hst : PO X (some (.Constant (.int st) k3 p3)) (tPart (tC (.int st))) := po_some pe_int
  refine wpAny_Slice (thn (hlo.run pins s1 σ H1 (fun o H2 => o = some lo ∧ H2 = H1) I1 ⟨lo, rfl, rfl, rfl⟩) fun vl s2 ⟨l, H2, I2, pl, el, e2⟩ => ?_)
  subst el e2
  refine thn (hhi.run pins s2 σ H2 (fun o H3 => o = some hi ∧ H3 = H2) I2 ⟨hi, rfl, rfl, rfl⟩) fun vu s3 ⟨u, H3, I3, pu, eu, e3⟩ => ?_
  subst eu e3
  refine thn (hst.run pins s3 σ H3 (fun o H4 => o = some st ∧ H4 = H3) I3 ⟨st, rfl, rfl, rfl⟩) fun vs s4 ⟨o, H4, I4, ps, eo, e4⟩ => ?_
  subst eo e4
  have I5 : Inv X pins σ H4 { s4 with heap := s4.heap.push { cls := .type "slice", data := .fields #[vl, vu, vs] } } := I4.kept (t' := s4.toks) fun b ob q => Heap.get?_push_of_some _ q
  obtain ⟨its, r, ht, hz⟩ := I5.list hx
  have hlen := r.length
  show wpAny (model X.prog X.w) X.A (subscriptTail e (.Slice (some (.Constant (.int lo) k1 p1)) (some (.Constant (.int hi) k2 p2)) (some (.Constant (.int st) k3 p3)) p4) (.ref a) (.ref s4.heap.objs.size)) (L2.EP X pins σ Q) X.xe { s4 with heap := s4.heap.push { cls := .type "slice", data := .fields #[vl, vu, vs] } }
  refine tail_any (ops := [.ref a, .ref s4.heap.objs.size]) ht.isList.typeIs (PySem.slot_list_getitem.lookup) ?_ (by with_unfolding_all rfl)
  refine wpAny_getItem_list_slice ht.isList (Heap.IsSliceOf.new _ vl vu vs) pl pu ps (fun z => h0 (Option.some.inj z)) ?_ (by rw [List.size_toArray]; omega)
  have e5 : slicePick its.toArray (some lo) (some hi) (some st) = ((stepIx lo hi st xs.length).filterMap fun i => its[i]?).toArray := by
    unfold slicePick stepIx
    rw [List.size_toArray, hlen]
    congr 1
    congr 1
    funext i
    simp
  have hle : (stepD lo hi st xs).length ≤ sizeLine := by
    have h1 := slicePick_size_le its.toArray (some lo) (some hi) (some st)
    rw [e5, List.size_toArray, List.size_toArray] at h1
    have h2 := (vals_pick r (stepIx lo hi st xs.length)).length
    unfold stepD
    omega
  rw [e5]
  refine ⟨.ref _, _, I5.laid (t' := s4.toks) (o := .lst (stepD lo hi st xs)) (fun b ob q => Heap.get?_push_of_some _ q) (Nat.le_refl _) ?_, rfl, q _ (I5.hok.fresh (Nat.le_refl _)) hle⟩
  exact ⟨hle, _, 0, vals_pick r _, Heap.get?_push_size _ rfl⟩
def eStep (lo hi st : Int) (f : EE) : EE := fun env => (f env).bind fun d => match d with
  | .scr ns => some (.lst true ((stepD lo hi st ns).map .int))
  | _ => none
theorem se_step {X : Cx} {cl : Cl} {a : Expr} {f : EE} {lo hi st : Int} {k1 k2 k3} {p1 p2 p3 p4 pos : Pos} (ha : Pk X cl a f) (h0 : st ≠ 0) :
    Se X cl (.Subscript a (.Slice (some (.Constant (.int lo) k1 p1)) (some (.Constant (.int hi) k2 p2)) (some (.Constant (.int st) k3 p3)) p4) pos) (eStep lo hi st f) := ⟨fun W env d q σ H E V Q k => by
  unfold eStep at q
  obtain ⟨dx, e1, q1⟩ := bind1 q
  split at q1
  · rename_i ns
    cases q1
    refine wE.of (pe_step pe_w h0) ?_
    refine ha.run W env _ e1 σ H E V _ fun v H1 F s1 o1 => ?_
    obtain ⟨p, rfl, hp⟩ := own_scr o1
    refine ⟨p, _, rfl, hp, fun l hl _ => ?_⟩
    rw [map_pick]
    exact k _ _ [l] (s1.trans (same_new hl)) (Own.lstO (F := []) upd_same own_ints) (by simp) (fun b hb => by rw [List.mem_singleton.mp hb]; exact Same.back s1 hl)
  · cases q1⟩
end Tg

namespace Tg
open PySem PySem.Spec L2 RT RZ PyProof.Rows
/-! ### dicts with nested keys: read, written, made -/
mutual
def D.nkey : Nat → D → Bool
  | _, .non => true
  | _, .int _ => true
  | _, .str _ => true
  | n + 1, .tup xs => D.nkeys n xs
  | _, _ => false
def D.nkeys : Nat → List D → Bool
  | _, [] => true
  | n, x :: xs => D.nkey n x && D.nkeys n xs
end
def isKey2 : D → Bool
  | .tup xs => D.nkeys 7 xs
  | _ => false
mutual
theorem nkey_of : ∀ (n : Nat) (d : D), d.nkey n = true → ∃ k : NestedKey, d = nkD k ∧ k.depth ≤ n
  | n, .non, _ => ⟨.none, rfl, Nat.zero_le _⟩
  | n, .int i, _ => ⟨.num i, rfl, Nat.zero_le _⟩
  | n, .str x, _ => ⟨.text ⟨x.toArray⟩, rfl, Nat.zero_le _⟩
  | n + 1, .tup xs, h => by
    obtain ⟨ks, e, hd⟩ := nkeys_of n xs h
    exact ⟨.tup ks, by rw [e]; rfl, Nat.succ_le_succ hd⟩
  | 0, .tup xs, h => nomatch h
  | n, .bl _, h => by cases n <;> cases h
  | n, .lst _ _, h => by cases n <;> cases h
  | n, .dic _ _ _, h => by cases n <;> cases h
  | n, .obj _ _ _, h => by cases n <;> cases h
  | n, .scr _, h => by cases n <;> cases h
  | n, .hole, h => by cases n <;> cases h
theorem nkeys_of : ∀ (n : Nat) (ds : List D), D.nkeys n ds = true → ∃ ks : List NestedKey, ds = nkDs ks ∧ NestedKey.depthAll ks ≤ n
  | n, [], _ => ⟨[], rfl, Nat.zero_le _⟩
  | n, x :: xs, h => by
    have h' : (x.nkey n && D.nkeys n xs) = true := h
    rw [Bool.and_eq_true] at h'
    obtain ⟨k, e1, d1⟩ := nkey_of n x h'.1
    obtain ⟨ks, e2, d2⟩ := nkeys_of n xs h'.2
    exact ⟨k :: ks, by rw [e1, e2]; rfl, by show max _ _ ≤ n; omega⟩
end
def putN (kvs : List (NestedKey × Addr × V)) (k : NestedKey) (b : Addr) (y : V) : List (NestedKey × Addr × V) :=
  if (valV (nv kvs) k).isSome = true then kvs.map (fun p => if p.1 = k then (p.1, p.2.1, y) else p) else kvs ++ [(k, b, y)]
theorem nv_put (kvs : List (NestedKey × Addr × V)) (k : NestedKey) (b : Addr) (y : V) : nv (putN kvs k b y) = putK (nv kvs) k y := by
  unfold putN putK
  rw [valV_any]
  by_cases h : (valV (nv kvs) k).isSome = true
  · rw [if_pos h, if_pos h]
    unfold nv
    rw [List.map_map, List.map_map]
    refine List.map_congr_left fun p _ => ?_
    simp only [Function.comp_def]
    by_cases e : p.1 = k <;> simp [e]
  · rw [if_neg h, if_neg h]
    unfold nv
    rw [List.map_append]
    rfl
abbrev NR : List (NestedKey × Addr × V) → List (NestedKey × Addr × Value) → Prop := Paired fun p q => p.1 = q.1 ∧ p.2.1 = q.2.1 ∧ RelV p.2.2 q.2.2
theorem NR.val {kvs : List (NestedKey × Addr × V)} {xs : List (NestedKey × Addr × Value)} (r : NR kvs xs) (k : NestedKey) : RelO (valV (nv kvs) k) ((atKey xs k).map (·.2)) := by
  induction r with
  | nil => exact True.intro
  | @cons p q ps qs h t ih =>
    obtain ⟨h1, _, h2⟩ := h
    by_cases e : p.1 = k
    · have e' : q.1 = k := h1.symm.trans e
      have b : atKey (q :: qs) k = some q.2 := by simp [atKey, List.find?_cons, e']
      rw [show nv (p :: ps) = (p.1, p.2.2) :: nv ps from rfl, valV_pos (p := (p.1, p.2.2)) e, b]; exact h2
    · have e' : ¬ q.1 = k := fun z => e (h1.trans z)
      have b : atKey (q :: qs) k = atKey qs k := by simp [atKey, List.find?_cons, e']
      rw [show nv (p :: ps) = (p.1, p.2.2) :: nv ps from rfl, valV_neg (p := (p.1, p.2.2)) e, b]; exact ih
theorem NR.put {kvs : List (NestedKey × Addr × V)} {xs : List (NestedKey × Addr × Value)} (r : NR kvs xs) (k : NestedKey) {b : Addr} {y : V} {u : Value} (ry : RelV y u) : NR (putN kvs k b y) (storedH xs k b u) := by
  have e : (valV (nv kvs) k).isSome = (atKey xs k).isSome := by rw [(r.val k).isSome_eq, Option.isSome_map]
  unfold putN storedH
  rw [e]
  by_cases q : (atKey xs k).isSome = true
  · rw [if_pos q, if_pos q]
    clear e q
    induction r with
    | nil => exact .nil
    | @cons p q ps qs h t ih =>
      rw [List.map_cons, List.map_cons]
      refine .cons ?_ ih
      obtain ⟨h1, h2, h3⟩ := h
      unfold putAt
      by_cases e : p.1 = k
      · rw [if_pos e, if_pos (h1.symm.trans e)]; exact ⟨h1, h2, ry⟩
      · rw [if_neg e, if_neg (fun z => e (h1.trans z))]; exact ⟨h1, h2, h3⟩
  · rw [if_neg q, if_neg q]; exact Paired.snoc r ⟨rfl, rfl, ry⟩
theorem length_putN (kvs : List (NestedKey × Addr × V)) (k : NestedKey) (b : Addr) (v : V) : (putN kvs k b v).length ≤ kvs.length + 1 := by
  unfold putN
  split
  · rw [List.length_map]; omega
  · rw [List.length_append, List.length_cons, List.length_nil]; omega
section
variable {K : PySem.W.Frag} {cl : Cl} {W : List Addr} {H : Hp} {P : Program} {w : World} {h : Heap}
mutual
/-- a tracked nested tuple is that key -/
theorem own_nkIs : ∀ (k : NestedKey) {v : V} {u : Value} {F : List Addr}, Own K cl W H v (nkD k) F → HOk P w H h → RelV v u → NestedIs h k u
  | .none, _, _, _, o, ok, r => by
    have o' : Own K cl W H _ .non _ := o
    cases o'
    cases r
    exact .none
  | .num i, _, _, _, o, ok, r => by
    have o' : Own K cl W H _ (.int i) _ := o
    cases o'
    obtain ⟨t, e⟩ := (show ∃ t, _ = Value.int i t from r)
    subst e
    exact .int i t
  | .text x, v, _, _, o, ok, r => by
    have o' : Own K cl W H v (.str x.cps.toList) _ := o
    have e0 : v = .str ⟨x.cps.toList.toArray⟩ := by cases o'; rfl
    have e1 : (⟨x.cps.toList.toArray⟩ : Str) = x := by cases x; simp
    rw [e0, e1] at r
    obtain ⟨t, e⟩ := (show ∃ t, _ = Value.str x t from r)
    subst e
    exact .text x t
  | .tup ks, v, u, _, o, ok, r => by
    have o' : Own K cl W H v (.tup (nkDs ks)) _ := o
    cases o' with
    | tup ht hs =>
      rename_i a vs
      obtain rfl : u = .ref a := r
      obtain ⟨_, its, rv, ob, h1, h2, n, h3⟩ := (show ObjOk P w H h a (.tup vs) from ok a _ ht)
      exact .tup h1 h2 h3 (by simpa using own_nksAre ks hs ok rv)
theorem own_nksAre : ∀ (ks : List NestedKey) {vs : List V} {us : List Value} {F : List Addr}, Owns K cl W H vs (nkDs ks) F → HOk P w H h → Vals vs us → NestedAll h ks us
  | [], _, _, _, o, ok, r => by
    have o' : Owns K cl W H _ [] _ := o
    cases o'
    cases r
    exact .nil
  | k :: ks, vs, us, F, o, ok, r => by
    have o' : Owns K cl W H vs (nkD k :: nkDs ks) F := o
    cases o' with
    | cons o1 os =>
      cases r with
      | cons r1 rs => exact .cons (own_nkIs k o1 ok r1) (own_nksAre ks os ok rs)
end
/-- what stands for a dict with nested keys -/
def NDict (K : PySem.W.Frag) (cl : Cl) (H : Hp) (a : Addr) (kvs : List (NestedKey × Addr × V)) : Prop :=
  ∃ o W, H a = some (ObjE a o) ∧ DnOk cl.P cl.w a o kvs ∧ Owns K cl W H (kvs.map fun p => V.ref p.2.1) (kvs.map fun p => nkD p.1) []
/-- what stands for such a key -/
def NKey (K : PySem.W.Frag) (cl : Cl) (H : Hp) (b : Addr) (k : NestedKey) : Prop := k.depth ≤ 8 ∧ ∃ W F, Own K cl W H (.ref b) (nkD k) F
theorem own_key2 {v : V} {d : D} {F : List Addr} (o : Own K cl W H v d F) (hk : isKey2 d = true) : ∃ b k, v = .ref b ∧ d = nkD k ∧ NKey K cl H b k ∧ F = [] := by
  unfold isKey2 at hk
  split at hk
  · rename_i xs
    obtain ⟨ks, e, hd⟩ := nkeys_of 7 xs hk
    subst e
    obtain ⟨b, vs, rfl, hb, hs⟩ := own_tupH o
    refine ⟨b, .tup ks, rfl, rfl, ⟨Nat.succ_le_succ hd, W, F, o⟩, o.sh (nkDs_sh ks)⟩
  · cases hk
theorem own_dic2 {v : V} {F : List Addr} {o : Bool} {ds : List (D × D)} (h : Own K cl W H v (.dic o 2 ds) F) : ∃ a kvs G, v = .ref a ∧ NDict K cl H a kvs ∧ kvs.map (fun p => nkD p.1) = ds.map (·.1) ∧ Owns K cl W H (kvs.map (·.2.2)) (ds.map (·.2)) G ∧ ∀ b ∈ G, b ∈ F := by
  cases h with
  | dnO h ok ks e hs => exact ⟨_, _, _, rfl, ⟨_, _, h, ok, by rw [e]; exact ks⟩, e, hs, fun b hb => List.mem_cons_of_mem _ hb⟩
  | dnF h hn ok ks e hs => exact ⟨_, _, _, rfl, ⟨_, _, h, ok, by rw [e]; exact ks⟩, e, hs, fun b hb => hb⟩
theorem NDict.mono {H' : Hp} (s : Same H H') {a : Addr} {kvs : List (NestedKey × Addr × V)} (d : NDict K cl H a kvs) : NDict K cl H' a kvs := let ⟨o, W, h, ok, ks⟩ := d; ⟨o, W, s _ _ h, ok, ks.mono s⟩
theorem NKey.mono {H' : Hp} (s : Same H H') {b : Addr} {k : NestedKey} (d : NKey K cl H b k) : NKey K cl H' b k := let ⟨hd, W, F, o⟩ := d; ⟨hd, W, F, o.mono s⟩
end
/-- the class table's program and world are the frame's -/
abbrev ClX (X : Cx) (cl : Cl) : Prop := cl.P = X.prog ∧ cl.w = X.w
section
variable {X : Cx} {cl : Cl} {pins : List (Addr × Obj)} {σ : L2.St} {H : Hp} {s : Shared} {a b : Addr} {kvs : List (NestedKey × Addr × V)} {k : NestedKey} {u r : Value} {A : Around} {E : Value → Shared → Prop}
theorem nd_heap (c : ClX X cl) (I : Inv X pins σ H s) (d : NDict X.K cl H a kvs) : kvs.length ≤ sizeLine ∧ (a == sysModules) = false ∧ ∃ xs, NR kvs xs ∧ s.heap.DictOfH (nestedKind X.prog X.w) a xs := by
  obtain ⟨o, W, h, ok, ks⟩ := d
  rw [c.1, c.2] at ok
  obtain ⟨z, hm, hd, ec, es, ep, xs, hdat, rel, he, nd⟩ := ok
  have ho : s.heap.get? a = some o := (show ObjOk _ _ _ _ _ (.ext _) from I.hok a _ h).1
  refine ⟨z, hm, xs, rel, o, es, ep, ho, ec, hdat, he, ?_, nd⟩
  clear hdat he nd z ho h
  have gen : ∀ {l : List (NestedKey × Addr × V)} {m : List (NestedKey × Addr × Value)} {F : List Addr}, NR l m → (∀ p ∈ l, p.1.depth ≤ 8) → Owns X.K cl W H (l.map fun p => V.ref p.2.1) (l.map fun p => nkD p.1) F → ∀ x ∈ m, (nestedKind X.prog X.w).is s.heap x.1 x.2.1 := by
    intro l m F q
    induction q generalizing F with
    | nil => intro _ _ x hx; exact nomatch hx
    | @cons p q ps qs hq t ih =>
      intro hd o x hx
      have o' : Owns X.K cl W H (V.ref p.2.1 :: ps.map fun p => V.ref p.2.1) (nkD p.1 :: ps.map fun p => nkD p.1) F := o
      cases o' with
      | cons o1 os =>
        rcases List.mem_cons.mp hx with e | hx
        · subst e
          rw [← hq.1, ← hq.2.1]
          exact ⟨own_nkIs p.1 o1 I.hok rfl, hd p List.mem_cons_self⟩
        · exact ih (fun y hy => hd y (List.mem_cons_of_mem _ hy)) os x hx
  exact gen rel hd ks
theorem nk_heap (I : Inv X pins σ H s) (d : NKey X.K cl H b k) : (nestedKind X.prog X.w).is s.heap k b := let ⟨hd, _, _, o⟩ := d; ⟨own_nkIs k o I.hok rfl, hd⟩
theorem nd_room (hu : A.units + 64 < cLine) : (nestedKind X.prog X.w).room A.in1 := by show A.in1.units + 8 < cLine; rw [Around.in1_units]; omega
theorem nd_type (c : ClX X cl) (I : Inv X pins σ H s) (d : NDict X.K cl H a kvs) : s.TypeIs (.ref a) "dict" := let ⟨_, _, _, _, m⟩ := nd_heap c I d; m.typeIs
theorem nd_nodict (c : ClX X cl) (I : Inv X pins σ H s) (d : NDict X.K cl H a kvs) : ∀ b, Value.ref a = .ref b → ∃ ob, s.heap.get? b = some ob ∧ ob.dict = none := fun b q => by
  cases q
  obtain ⟨_, _, _, _, ob, _, _, h1, h2, _⟩ := nd_heap c I d
  exact ⟨ob, h1, h2.2.1⟩
theorem nd_get {v : V} {Q : Value → Shared → Prop} (hu : A.units + 64 < cLine) (c : ClX X cl) (I : Inv X pins σ H s) (d : NDict X.K cl H a kvs) (dk : NKey X.K cl H b k) (l : valV (nv kvs) k = some v) (h : ∀ w' s', Inv X pins σ H s' → RelV v w' → Q w' s') :
    wpAny (model X.prog X.w) A (getItem (.ref a) (.ref b)) Q E s := by
  obtain ⟨z, hd, xs, rel, dd⟩ := nd_heap c I d
  obtain ⟨w', hw, rw'⟩ := RelO.some_of (v := v) (o := (atKey xs k).map (·.2)) (by rw [← l]; exact rel.val k)
  obtain ⟨p, hp, hp2⟩ := Option.map_eq_some_iff.mp hw
  refine wpAny_getItem_heap (nd_room hu) (nk_heap I dk) dd hp ?_
  rw [hp2]
  exact h w' _ (I.tok _) rw'
theorem nd_in {Q : Value → Shared → Prop} (hu : A.units + 64 < cLine) (c : ClX X cl) (I : Inv X pins σ H s) (d : NDict X.K cl H a kvs) (dk : NKey X.K cl H b k) (h : ∀ s', Inv X pins σ H s' → Q (.bool (valV (nv kvs) k).isSome) s') :
    wpAny (model X.prog X.w) A (compareOp .In (.ref b) (.ref a)) Q E s := by
  obtain ⟨z, hd, xs, rel, dd⟩ := nd_heap c I d
  refine wpAny_in_heap (nd_room hu) (nk_heap I dk) hd dd ?_
  have q := (rel.val k).isSome_eq
  rw [Option.isSome_map] at q
  rw [← q]
  exact h _ (I.tok _)
theorem nd_notIn {Q : Value → Shared → Prop} (hu : A.units + 64 < cLine) (c : ClX X cl) (I : Inv X pins σ H s) (d : NDict X.K cl H a kvs) (dk : NKey X.K cl H b k) (h : ∀ s', Inv X pins σ H s' → Q (.bool (!(valV (nv kvs) k).isSome)) s') :
    wpAny (model X.prog X.w) A (compareOp .NotIn (.ref b) (.ref a)) Q E s := by
  obtain ⟨z, hd, xs, rel, dd⟩ := nd_heap c I d
  refine wpAny_notIn_heap (nd_room hu) (nk_heap I dk) hd dd ?_
  have q := (rel.val k).isSome_eq
  rw [Option.isSome_map] at q
  rw [← q]
  exact h _ (I.tok _)
theorem nd_get1 {Q : Value → Shared → Prop} (hu : A.units + 64 < cLine) (c : ClX X cl) (I : Inv X pins σ H s) (d : NDict X.K cl H a kvs) (dk : NKey X.K cl H b k) (h : ∀ w' s', Inv X pins σ H s' → RelV ((valV (nv kvs) k).getD .non) w' → Q w' s') :
    wpAny (model X.prog X.w) A (call (.builtin "dict.get") [.ref a, .ref b]) Q E s := by
  obtain ⟨z, hd, xs, rel, dd⟩ := nd_heap c I d
  exact call_meetsIn PySem.F.slot_dict_get dd.typeIs PySem.F.entry_dict_get (PySem.F.args_dict_get_2 _ _) (meetsH_dict_get (nestedKind X.prog X.w) a b hd) ⟨nd_room hu, k, xs, nk_heap I dk, dd, h _ _ (I.tok _) ((rel.val k).getD rfl)⟩
theorem nd_get2 {dv : V} {Q : Value → Shared → Prop} (hu : A.units + 64 < cLine) (c : ClX X cl) (I : Inv X pins σ H s) (d : NDict X.K cl H a kvs) (dk : NKey X.K cl H b k) (rd : RelV dv r) (h : ∀ w' s', Inv X pins σ H s' → RelV ((valV (nv kvs) k).getD dv) w' → Q w' s') :
    wpAny (model X.prog X.w) A (call (.builtin "dict.get") [.ref a, .ref b, r]) Q E s := by
  obtain ⟨z, hd, xs, rel, dd⟩ := nd_heap c I d
  exact call_meetsIn PySem.F.slot_dict_get dd.typeIs PySem.F.entry_dict_get (PySem.F.args_dict_get_3 _ _ _) (meetsH_dict_get_default (nestedKind X.prog X.w) a b hd r) ⟨nd_room hu, k, xs, nk_heap I dk, dd, h _ _ (I.tok _) ((rel.val k).getD rd)⟩
/-- d[y] = v -/
theorem nd_set {o : Obj} {v : V} {Q : Unit → Shared → Prop} (hu : A.units + 64 < cLine) (c : ClX X cl) (I : Inv X pins σ H s) (d : NDict X.K cl H a kvs) (dk : NKey X.K cl H b k) (hl : kvs.length < sizeLine) (rv : RelV v r)
    (h : ∀ o' s', DnOk cl.P cl.w a o' (putN kvs k b v) → Inv X pins σ (upd H a (ObjE a o')) s' → Q () s') : wpAny (model X.prog X.w) A (setItem (.ref a) (.ref b) r) Q E s := by
  obtain ⟨z, hd, xs, rel, dd⟩ := nd_heap c I d
  have hz : xs.length ≤ sizeLine := by rw [← Paired.length rel]; exact z
  refine wpAny_setItem_heap (hsz := hz) (nd_room hu) (nk_heap I dk) dd fun h' dd' hs => ?_
  obtain ⟨q, es, ep, hq, h2, h3, h4, _, h5⟩ := dd'
  have hdep : ∀ p ∈ putN kvs k b v, p.1.depth ≤ 8 := by
    obtain ⟨o0, W, hh, ok, _⟩ := d
    have hd0 := ok.2.2.1
    intro p hp
    unfold putN at hp
    split at hp
    · obtain ⟨p0, hp0, rfl⟩ := List.mem_map.mp hp
      by_cases e : p0.1 = k
      · rw [if_pos e]; exact hd0 p0 hp0
      · rw [if_neg e]; exact hd0 p0 hp0
    · rcases List.mem_append.mp hp with z | z
      · exact hd0 p z
      · rw [List.mem_singleton.mp z]; exact dk.1
  refine h q _ ⟨by have := length_putN kvs k b v; omega, hd, hdep, h2, es, ep, _, h3, rel.put k rv, by rw [c.1, c.2]; exact h4, h5⟩ ?_
  obtain ⟨o0, W, hh, _, _⟩ := d
  exact d_write I (by rw [hh]; exact True.intro) hs ⟨q, hq⟩ ⟨hq, ⟨q, hq⟩, fun h1 h2 e1 e2 => e2 _ e1⟩
end
end Tg

namespace Tg
open PySem PySem.Spec L2 RT RZ PyProof.Rows
/-! ### dicts with nested keys: expressions -/
def tNGet (K : PySem.W.Frag) (cl : Cl) (td ty : TE) : TE := fun σ H Q => td σ H fun x H1 => ty σ H1 fun y H2 => ∃ a kvs b k v, x = .ref a ∧ NDict K cl H2 a kvs ∧ y = .ref b ∧ NKey K cl H2 b k ∧ valV (nv kvs) k = some v ∧ Q v H2
def tNGet1 (K : PySem.W.Frag) (cl : Cl) (td ty : TE) : TE := fun σ H Q => td σ H fun x H1 => ∃ a, x = .ref a ∧ (∃ kvs, NDict K cl H1 a kvs) ∧ ty σ H1 fun y H2 => ∃ kvs b k, NDict K cl H2 a kvs ∧ y = .ref b ∧ NKey K cl H2 b k ∧ Q ((valV (nv kvs) k).getD .non) H2
def tNGet2 (K : PySem.W.Frag) (cl : Cl) (td ty tx : TE) : TE := fun σ H Q => td σ H fun x H1 => ∃ a, x = .ref a ∧ (∃ kvs, NDict K cl H1 a kvs) ∧ ty σ H1 fun y H2 => tx σ H2 fun z H3 => ∃ kvs b k, NDict K cl H3 a kvs ∧ y = .ref b ∧ NKey K cl H3 b k ∧ Q ((valV (nv kvs) k).getD z) H3
def sNPut (K : PySem.W.Frag) (cl : Cl) (td ty tv : TE) : TS := fun D σ H => tv σ H fun v H1 => td σ H1 fun x H2 => ty σ H2 fun y H3 => ∃ a kvs b k, x = .ref a ∧ NDict K cl H3 a kvs ∧ y = .ref b ∧ NKey K cl H3 b k ∧ kvs.length < sizeLine ∧
  ∀ o', DnOk cl.P cl.w a o' (putN kvs k b v) → D.nx σ (upd H3 a (ObjE a o'))
section
variable {X : Cx} {cl : Cl} {o i e f value : Expr} {pos pos' tpos apos cpos : Pos} {td ty tv tx : TE}
theorem pe_nget (hu : X.A.units + 64 < cLine) (c : ClX X cl) (ho : PE X o td) (hi : PE X i ty) (hs : NoSl i) : PE X (.Subscript o i pos) (tNGet X.K cl td ty) := by
  refine ⟨fun pins s σ H Q I h => ?_⟩
  refine subD_of PySem.F.slot_dict_getitem.lookup hs (thn (ho.run pins s σ H _ I h) fun u s1 ⟨x, H1, I1, rx, q1⟩ => thn (hi.run pins s1 σ H1 _ I1 q1) fun iv s2 ⟨y, H2, I2, ry, a, kvs, b, k, v, ex, d, ey, dk, l, q2⟩ => ?_)
  subst ex ey
  obtain rfl : u = Value.ref a := rx
  obtain rfl : iv = Value.ref b := ry
  exact ⟨nd_type c I2 d, nd_get hu c I2 d dk l fun w' s3 I3 rw' => ⟨v, H2, I3, rw', q2⟩⟩
theorem pe_nget1 (hu : X.A.units + 64 < cLine) (c : ClX X cl) (ho : PE X o td) (he : PE X e ty) (m : M1 X o "get" apos e cpos) : PE X (.Call (.Attribute o "get" apos) [e] [] cpos) (tNGet1 X.K cl td ty) := by
  refine ⟨fun pins s σ H Q I h => ?_⟩
  refine wpAny_Call_method m.base m.few m.line PySem.F.plainAttrs_dict PySem.F.slot_dict_get PySem.F.type_dict_get (thn (ho.run pins s σ H _ I h) fun u s1 ⟨x, H1, I1, rx, a, ex, ⟨kvs0, d0⟩, q1⟩ => ?_)
  subst ex
  obtain rfl : u = Value.ref a := rx
  refine ⟨nd_type c I1 d0, nd_nodict c I1 d0, ?_⟩
  rw [m.trees]
  refine Calls.callWith_builtin rfl (Calls.evalArgs_plain (Calls.spliced_cons (thn (he.run pins s1 σ H1 _ I1 q1) fun iv s2 ⟨y, H2, I2, ry, kvs, b, k, d, ey, dk, q2⟩ => Calls.spliced_nil ?_)))
  subst ey
  obtain rfl : iv = Value.ref b := ry
  exact nd_get1 hu c I2 d dk fun w' s3 I3 rw' => ⟨_, H2, I3, rw', q2⟩
theorem pe_nget2 (hu : X.A.units + 64 < cLine) (c : ClX X cl) (ho : PE X o td) (he : PE X e ty) (hf : PE X f tx) (m : M2 X o "get" apos e f cpos) : PE X (.Call (.Attribute o "get" apos) [e, f] [] cpos) (tNGet2 X.K cl td ty tx) := by
  refine ⟨fun pins s σ H Q I h => ?_⟩
  refine wpAny_Call_method m.base m.few m.line PySem.F.plainAttrs_dict PySem.F.slot_dict_get PySem.F.type_dict_get (thn (ho.run pins s σ H _ I h) fun u s1 ⟨x, H1, I1, rx, a, ex, ⟨kvs0, d0⟩, q1⟩ => ?_)
  subst ex
  obtain rfl : u = Value.ref a := rx
  refine ⟨nd_type c I1 d0, nd_nodict c I1 d0, ?_⟩
  rw [m.trees]
  refine Calls.callWith_builtin rfl (Calls.evalArgs_plain (Calls.spliced_cons (thn (he.run pins s1 σ H1 _ I1 q1) fun iv s2 ⟨y, H2, I2, ry, q2⟩ =>
    Calls.spliced_cons (thn (hf.run pins s2 σ H2 _ I2 q2) fun fv s3 ⟨z, H3, I3, rz, kvs, b, k, d, ey, dk, q3⟩ => Calls.spliced_nil ?_))))
  subst ey
  obtain rfl : iv = Value.ref b := ry
  exact nd_get2 hu c I3 d dk rz fun w' s4 I4 rw' => ⟨_, H3, I4, rw', q3⟩
theorem ps_nput (hu : X.A.units + 64 < cLine) (c : ClX X cl) (ho : PE X o td) (hi : PE X i ty) (hv : PE X value tv) (hs : swapsWith value (some (.Subscript o i pos')) pos.line X.env = pure false) :
    PS X (.Assign [.Subscript o i pos'] value pos) (sNPut X.K cl td ty tv) := by
  refine ⟨fun pins s σ H D I h => ?_⟩
  refine wpAny_Assign_Subscript (thn (hv.run pins s σ H _ I h) fun r s1 ⟨v, H1, I1, rv, q1⟩ => thn (ho.run pins s1 σ H1 _ I1 q1) fun u s2 ⟨x, H2, I2, rx, q2⟩ => thn (hi.run pins s2 σ H2 _ I2 q2) fun iv s3 ⟨y, H3, I3, ry, a, kvs, b, k, ex, d, ey, dk, hl, q3⟩ => ?_) hs
  subst ex ey
  obtain rfl : u = Value.ref a := rx
  obtain rfl : iv = Value.ref b := ry
  exact nd_set (o := default) hu c I3 d dk hl rv fun o' s4 ok I4 => ⟨σ, _, I4, q3 o' ok⟩
end
theorem dn_empty {P : Program} {w : World} (a : Addr) (hd : (a == sysModules) = false) : DnOk P w a { cls := .type "dict", data := .dict #[] } [] :=
  ⟨Nat.zero_le _, hd, (fun _ h => nomatch h), ⟨rfl, rfl, rfl⟩, #[], 0, [], rfl, .nil, rfl, List.nodup_nil⟩
def tDNewN (P : Program) (w : World) : TE := fun _ H Q => ∀ p, H p = none → DnOk P w p { cls := .type "dict", data := .dict #[] } [] → Q (.ref p) (upd H p (ObjE p { cls := .type "dict", data := .dict #[] }))
theorem pe_dnewN {X : Cx} {pos : Pos} {P : Program} {w : World} : PE X (.Dict [] [] pos) (tDNewN P w) := ⟨fun pins s σ H Q I h =>
  wpAny_Dict_empty ⟨.ref s.heap.objs.size, _, I.laid (a := s.heap.objs.size) (o := ObjE s.heap.objs.size { cls := .type "dict", data := .dict #[] }) (t' := s.toks) (fun _ _ q => Heap.get?_push_of_some _ q) (Nat.le_refl _)
    ⟨Heap.get?_push_size _ rfl, ⟨_, Heap.get?_push_size _ rfl⟩, fun h1 h2 e1 e2 => e2 _ e1⟩, rfl, h _ (I.hok.fresh (Nat.le_refl _)) (dn_empty _ (beq_eq_false_iff_ne.mpr (Ne.symm (Nat.ne_of_lt I.big))))⟩⟩
/-! ### what they tell -/
def gDGU : D → D → Option D
  | .dic _ 2 ds, y => if isKey2 y then lookD y ds else none
  | x, y => gDG x y
def gDInU : D → D → Option D
  | y, .dic _ 2 ds => if isKey2 y then some (.bl (lookD y ds).isSome) else none
  | y, x => gDIn y x
def gDNotInU : D → D → Option D
  | y, .dic _ 2 ds => if isKey2 y then some (.bl (!(lookD y ds).isSome)) else none
  | y, x => gDNotIn y x
def eDGet2U (f g h : EE) : EE := fun env => (f env).bind fun x => match x with
  | .dic _ 2 ds => (g env).bind fun y => (h env).bind fun z => if isKey2 y then some ((lookD y ds).getD z) else none
  | _ => eDGet2 f g h env
def eDGet1U (f g : EE) : EE := fun env => (f env).bind fun x => match x with
  | .dic _ 2 ds => (g env).bind fun y => if isKey2 y then some ((lookD y ds).getD .non) else none
  | _ => eDGet1 f g env
section
variable {X : Cx} {cl : Cl} {io : List Nat} {a b c e : Expr} {f g h : EE} {pos apos : Pos} {i : Nat} {p : EP1}
/-- what a dict holds at a key -/
theorem own_nget {K : PySem.W.Frag} {W W' : List Addr} {H : Hp} {v y : V} {F Fy : List Addr} {o : Bool} {ds : List (Tg.D × Tg.D)} {dy : Tg.D} (h : Own K cl W H v (.dic o 2 ds) F) (hy : Own K cl W' H y dy Fy) (hk : isKey2 dy = true) :
    ∃ a kvs b k, v = .ref a ∧ NDict K cl H a kvs ∧ y = .ref b ∧ NKey K cl H b k ∧ (∀ d, lookD dy ds = some d → ∃ u G, valV (nv kvs) k = some u ∧ Own K cl W H u d G ∧ ∀ b ∈ G, b ∈ F) ∧ (lookD dy ds = none → valV (nv kvs) k = none) := by
  obtain ⟨a, kvs, G, rfl, hd, he, hs, hG⟩ := own_dic2 h
  obtain ⟨b, k, rfl, rfl, hn, _⟩ := own_key2 hy hk
  obtain ⟨q1, q2⟩ := look_own keq_nkD k (kvs := nv kvs) (by rw [nv_fst]; exact he) (by rw [nv_snd]; exact hs)
  refine ⟨a, kvs, b, k, rfl, hd, rfl, hn, fun d hd => ?_, q2⟩
  obtain ⟨u, G', g1, g2, g3⟩ := q1 d hd
  exact ⟨u, G', g1, g2, fun b hb => hG b (g3 b hb)⟩
theorem pk_dgetU (hu : X.A.units + 64 < cLine) (ha : Pk X cl a f) (hb : Pk X cl b g) (hs : NoSl b) (hc : ClX X cl := by exact ⟨rfl, rfl⟩) : Pk X cl (.Subscript a b pos) (eOp gDGU f g) := ⟨fun W env d q σ H E V Q k => by
  obtain ⟨dx, dy, e1, e2, e3⟩ := bind2 q
  unfold gDGU at e3
  split at e3
  · rename_i ob ds
    split at e3
    rotate_left
    · cases e3
    rename_i hk
    refine wE.of (pe_nget (by omega) hc pe_w pe_w hs) ?_
    refine ha.run W env _ e1 σ H E V _ fun v H1 F s1 o1 => ?_
    refine hb.run W env _ e2 σ H1 (E.mono s1) (V.mono s1) _ fun u H2 G s2 o2 => ?_
    obtain ⟨a, kvs, b, k', rfl, h2, rfl, h3, h4, _⟩ := own_nget (o1.mono s2) o2 hk
    obtain ⟨w, G', h5, h6, _⟩ := h4 d e3
    exact ⟨a, kvs, b, k', w, rfl, h2, rfl, h3, h5, k w H2 G' (s1.trans s2) h6⟩
  · exact (pk_dget hu ha hb hs).run W env d (by unfold eOp; rw [e1, e2]; exact e3) σ H E V Q k⟩
theorem pk_dget2U (hu : X.A.units + 64 < cLine) (ha : Pk X cl a f) (hb : Pk X cl b g) (hc' : Pk X cl c h) {cpos : Pos} (m : M2 X a "get" apos b c cpos) (hc : ClX X cl := by exact ⟨rfl, rfl⟩) : Pk X cl (.Call (.Attribute a "get" apos) [b, c] [] cpos) (eDGet2U f g h) := ⟨fun W env d q σ H E V Q k => by
  unfold eDGet2U at q
  obtain ⟨dx, e1, q1⟩ := bind1 q
  split at q1
  · rename_i ob ds
    obtain ⟨dy, dz, e2, e3, e4⟩ := bind2 q1
    split at e4
    rotate_left
    · cases e4
    rename_i hk
    cases e4
    refine wE.of (pe_nget2 (by omega) hc pe_w pe_w pe_w m) ?_
    refine ha.run W env _ e1 σ H E V _ fun v H1 F s1 o1 => ?_
    obtain ⟨a', kvs0, _, rfl, hd0, _⟩ := own_dic2 o1
    refine ⟨a', rfl, ⟨kvs0, hd0⟩, ?_⟩
    refine hb.run W env _ e2 σ H1 (E.mono s1) (V.mono s1) _ fun u H2 G s2 o2 => ?_
    refine hc'.run W env _ e3 σ H2 (E.mono (s1.trans s2)) (V.mono (s1.trans s2)) _ fun w H3 G3 s3 o3 => ?_
    obtain ⟨a, kvs, b, k', e, h2, rfl, h3, h4, h5⟩ := own_nget (o1.mono (s2.trans s3)) (o2.mono s3) hk
    cases e
    cases hl : lookD dy ds with
    | none =>
      refine ⟨kvs, b, k', h2, rfl, h3, ?_⟩
      rw [h5 hl]
      rw [hl] at k
      exact k w H3 G3 ((s1.trans s2).trans s3) o3
    | some d =>
      obtain ⟨u', G', h6, h7, _⟩ := h4 d hl
      refine ⟨kvs, b, k', h2, rfl, h3, ?_⟩
      rw [h6]
      rw [hl] at k
      exact k u' H3 G' ((s1.trans s2).trans s3) h7
  · exact (pk_dget2 hu ha hb hc' m).run W env d q1 σ H E V Q k⟩
theorem pk_dget1U (hu : X.A.units + 64 < cLine) (ha : Pk X cl a f) (hb : Pk X cl b g) {cpos : Pos} (m : M1 X a "get" apos b cpos) (hc : ClX X cl := by exact ⟨rfl, rfl⟩) : Pk X cl (.Call (.Attribute a "get" apos) [b] [] cpos) (eDGet1U f g) := ⟨fun W env d q σ H E V Q k => by
  unfold eDGet1U at q
  obtain ⟨dx, e1, q1⟩ := bind1 q
  split at q1
  · rename_i ob ds
    obtain ⟨dy, e2, e4⟩ := bind1 q1
    split at e4
    rotate_left
    · cases e4
    rename_i hk
    cases e4
    refine wE.of (pe_nget1 (by omega) hc pe_w pe_w m) ?_
    refine ha.run W env _ e1 σ H E V _ fun v H1 F s1 o1 => ?_
    obtain ⟨a', kvs0, _, rfl, hd0, _⟩ := own_dic2 o1
    refine ⟨a', rfl, ⟨kvs0, hd0⟩, ?_⟩
    refine hb.run W env _ e2 σ H1 (E.mono s1) (V.mono s1) _ fun u H2 G s2 o2 => ?_
    obtain ⟨a, kvs, b, k', e, h2, rfl, h3, h4, h5⟩ := own_nget (o1.mono s2) o2 hk
    cases e
    cases hl : lookD dy ds with
    | none =>
      refine ⟨kvs, b, k', h2, rfl, h3, ?_⟩
      rw [h5 hl]
      rw [hl] at k
      exact k .non H2 [] (s1.trans s2) .non
    | some d =>
      obtain ⟨u', G', h6, h7, _⟩ := h4 d hl
      refine ⟨kvs, b, k', h2, rfl, h3, ?_⟩
      rw [h6]
      rw [hl] at k
      exact k u' H2 G' (s1.trans s2) h7
  · exact (pk_dget1 hu ha hb m).run W env d q1 σ H E V Q k⟩
theorem go_dInU (hu : X.A.units + 64 < cLine) (hc : ClX X cl := by exact ⟨rfl, rfl⟩) : GO X cl (compareOp .In) gDInU := ⟨fun dy dx d q => by
  unfold gDInU at q
  split at q
  · rename_i ob ds
    split at q
    rotate_left
    · cases q
    rename_i hk
    cases q
    refine ⟨fun y x H Q => ∃ a kvs b k, x = .ref a ∧ NDict X.K cl H a kvs ∧ y = .ref b ∧ NKey X.K cl H b k ∧ Q (.bl (valV (nv kvs) k).isSome) H, fun pins s σ H x y v u Q I rx ry h => ?_, fun W H x y Fx Fy V ox oy Q k => ?_⟩
    · obtain ⟨a, kvs, b, k, rfl, h1, rfl, h2, h3⟩ := h
      cases ry
      cases rx
      exact nd_in (by omega) hc I h1 h2 fun s' I' => ⟨.bl _, H, I', rfl, h3⟩
    · obtain ⟨a, kvs, b, k', rfl, h2, rfl, h3, h4, h5⟩ := own_nget oy ox hk
      refine ⟨a, kvs, b, k', rfl, h2, rfl, h3, ?_⟩
      cases hl : lookD dy ds with
      | none =>
        rw [h5 hl]
        rw [hl] at k
        exact k.bl
      | some d =>
        obtain ⟨u', G', h6, _, _⟩ := h4 d hl
        rw [h6]
        rw [hl] at k
        exact k.bl
  · exact (go_dIn hu).run _ _ _ q⟩
theorem go_dNotInU (hu : X.A.units + 64 < cLine) (hc : ClX X cl := by exact ⟨rfl, rfl⟩) : GO X cl (compareOp .NotIn) gDNotInU := ⟨fun dy dx d q => by
  unfold gDNotInU at q
  split at q
  · rename_i ob ds
    split at q
    rotate_left
    · cases q
    rename_i hk
    cases q
    refine ⟨fun y x H Q => ∃ a kvs b k, x = .ref a ∧ NDict X.K cl H a kvs ∧ y = .ref b ∧ NKey X.K cl H b k ∧ Q (.bl (!(valV (nv kvs) k).isSome)) H, fun pins s σ H x y v u Q I rx ry h => ?_, fun W H x y Fx Fy V ox oy Q k => ?_⟩
    · obtain ⟨a, kvs, b, k, rfl, h1, rfl, h2, h3⟩ := h
      cases ry
      cases rx
      exact nd_notIn (by omega) hc I h1 h2 fun s' I' => ⟨.bl _, H, I', rfl, h3⟩
    · obtain ⟨a, kvs, b, k', rfl, h2, rfl, h3, h4, h5⟩ := own_nget oy ox hk
      refine ⟨a, kvs, b, k', rfl, h2, rfl, h3, ?_⟩
      cases hl : lookD dy ds with
      | none =>
        rw [h5 hl]
        rw [hl] at k
        exact k.bl
      | some d =>
        obtain ⟨u', G', h6, _, _⟩ := h4 d hl
        rw [h6]
        rw [hl] at k
        exact k.bl
  · exact (go_dNotIn hu).run _ _ _ q⟩
/-- {} -/
theorem se_dnew2 (hc : ClX X cl := by exact ⟨rfl, rfl⟩) : Se X cl (.Dict [] [] pos) (eDNew 2) := ⟨fun W env d q σ H E V Q k => by
  cases q
  refine wE.of (pe_dnewN (P := cl.P) (w := cl.w)) fun p hp ok => ?_
  exact k _ _ [p] (same_new hp) (Own.dnO (F := []) (kvs := []) upd_same ok .nil rfl .nil) (by simp) fun a ha => by rw [List.mem_singleton.mp ha]; exact hp⟩
end
end Tg

namespace Tg
open PySem PySem.Spec L2 RT RZ PyProof.Rows
/-! ### len of a dict -/
/-- len of a dict with nested keys -/
def rLenN (K : PySem.W.Frag) (cl : Cl) : List V → Hp → VK → Prop := fun xs H Q => ∃ a kvs, xs = [.ref a] ∧ NDict K cl H a kvs ∧ Q (.int ((kvs.length : Nat) : Int)) H
theorem call_lenN {X : Cx} {cl : Cl} (c : ClX X cl) : CallR X (.builtin "len") (rLenN X.K cl) := by
  intro pins s σ H xs us Q I r h
  obtain ⟨a, kvs, rfl, hd, q⟩ := h
  obtain ⟨u, rfl, rx⟩ := vals1 r
  cases rx
  obtain ⟨z, hm, ys, rel, dd⟩ := nd_heap c I hd
  have hl : kvs.length = ys.length := Paired.length rel
  refine call_len_dictH hm dd (by rw [← hl]; rw [sizeLine_eq] at z; omega) ?_
  rw [← hl]
  exact ⟨.int kvs.length, H, I.tok _, ⟨_, rfl⟩, q⟩
def rLenU (K : PySem.W.Frag) : List V → Hp → VK → Prop := fun xs H Q => (∃ x n, xs = [x] ∧ LenV K x H n ∧ Q (.int n) H) ∨ (∃ a kvs, xs = [.ref a] ∧ Rd H a (.dK kvs) ∧ Q (.int ((kvs.length : Nat) : Int)) H) ∨ rLenT xs H Q
theorem call_lenU {X : Cx} : CallR X (.builtin "len") (rLenU X.K) := by
  intro pins s σ H xs us Q I r h
  rcases h with h | ⟨a, kvs, rfl, hd, q⟩ | h
  · exact call_len pins s σ H xs us Q I r h
  · obtain ⟨u, rfl, rx⟩ := vals1 r
    cases rx
    exact d_len I hd fun t s' I' => ⟨.int _, H, I', ⟨_, rfl⟩, q⟩
  · exact call_len_dT pins s σ H xs us Q I r h
def gLenU : D → Option D
  | .dic _ _ ds => some (.int ds.length)
  | d => gLen d
theorem gf_lenU {X : Cx} {cl : Cl} (hc : ClX X cl := by exact ⟨rfl, rfl⟩) : GF X cl (.builtin "len") gLenU := ⟨fun dx d q => by
  by_cases hn : ∃ o ds, dx = .dic o 2 ds
  · obtain ⟨o, ds, rfl⟩ := hn
    cases q
    refine ⟨_, call_lenN hc, fun W H x Fx V o Q k => ?_⟩
    obtain ⟨a, kvs, G, rfl, hd, he, _⟩ := own_dic2 o
    exact ⟨a, kvs, rfl, hd, by have := congrArg List.length he; simp only [List.length_map] at this; rw [this]; exact k.int⟩
  refine ⟨_, call_lenU, fun W H x Fx V o Q k => ?_⟩
  unfold gLenU at q
  split at q
  · cases q
    cases o with
    | dicO h e hs => exact .inr (.inl ⟨_, _, rfl, .inl h, by have := congrArg List.length e; simp only [List.length_map] at this; rw [this]; exact k.int⟩)
    | dicF h hn e hs => exact .inr (.inl ⟨_, _, rfl, .inl h, by have := congrArg List.length e; simp only [List.length_map] at this; rw [this]; exact k.int⟩)
    | dtO h e hs => exact .inr (.inr ⟨_, _, rfl, h, by have := congrArg List.length e; simp only [List.length_map] at this; rw [this]; exact k.int⟩)
    | dtF h hn e hs => exact .inr (.inr ⟨_, _, rfl, h, by have := congrArg List.length e; simp only [List.length_map] at this; rw [this]; exact k.int⟩)
    | dnO h ok ks e hs => exact absurd ⟨_, _, rfl⟩ hn
    | dnF h hn' ok ks e hs => exact absurd ⟨_, _, rfl⟩ hn
  · refine .inl ?_
    unfold gLen at q
    split at q
    · cases q
      obtain ⟨p, vs, rfl, hp, hs⟩ := own_tup o
      refine ⟨_, _, rfl, .inr ⟨vs, hp, rfl⟩, ?_⟩
      rw [hs.length]
      exact k.int
    · cases q
      obtain ⟨p, vs, G, rfl, hp, hs, _⟩ := own_lst o
      refine ⟨_, _, rfl, .inl ⟨vs, SqL.of hp, rfl⟩, ?_⟩
      rw [hs.length]
      exact k.int
    · split at q
      · cases q
        cases own_str o
        rename_i xs _ hz
        have e : (⟨xs.toArray⟩ : Str).length = xs.length := by simp [Str.length]
        refine ⟨_, _, rfl, ⟨by rw [line_eq] at hz; simpa [Str.length] using hz, rfl⟩, ?_⟩
        rw [e]
        exact k.int
      · cases q
    · cases q
      obtain ⟨p, rfl, hp⟩ := own_scr o
      refine ⟨_, _, rfl, .inl ⟨_, hp, rfl⟩, ?_⟩
      rw [List.length_map]
      exact k.int
    · cases q⟩
@[simp] theorem gLenU_l (o : Bool) (xs : List D) : gLenU (.lst o xs) = some (.int xs.length) := (rfl)
@[simp] theorem gLenU_t (xs : List D) : gLenU (.tup xs) = some (.int xs.length) := (rfl)
@[simp] theorem gLenU_c (ns : List Int) : gLenU (.scr ns) = some (.int ns.length) := (rfl)
@[simp] theorem gLenU_s (x : List Nat) : gLenU (.str x) = if x.length ≤ line then some (.int x.length) else none := (rfl)
@[simp] theorem gLenU_d (o : Bool) (n : Nat) (ds : List (D × D)) : gLenU (.dic o n ds) = some (.int ds.length) := (rfl)
end Tg

namespace Tg
open PySem PySem.Spec L2 RT RZ PyProof.Rows
/-! ### d[k] = v, nested keys -/
theorem Owns.unapp {K : PySem.W.Frag} {cl : Cl} {W : List Addr} {H : Hp} : ∀ {as bs : List V} {ds es : List D} {F : List Addr}, as.length = ds.length → D.shs ds = true → Owns K cl W H (as ++ bs) (ds ++ es) F → Owns K cl W H as ds [] ∧ Owns K cl W H bs es F
  | [], bs, [], es, F, _, _, o => ⟨.nil, o⟩
  | [], _, _ :: _, _, _, l, _, _ => nomatch l
  | _ :: _, _, [], _, _, l, _, _ => nomatch l
  | a :: as, bs, d :: ds, es, F, l, s, o => by
    have s' : (d.sh && D.shs ds) = true := s
    rw [Bool.and_eq_true] at s'
    have o' : Owns K cl W H (a :: (as ++ bs)) (d :: (ds ++ es)) F := o
    cases o' with
    | cons o1 os =>
      obtain ⟨h1, h2⟩ := Owns.unapp (by simpa using l) s'.2 os
      have := o1.sh s'.1
      subst this
      exact ⟨Owns.cons (F := []) (G := []) o1 h1, by simpa using h2⟩
theorem keys_put {K : PySem.W.Frag} {cl : Cl} {W : List Addr} {H : Hp} {kvs : List (NestedKey × Addr × V)} {k : NestedKey} {b : Addr} {y : V} (o : Owns K cl W H (kvs.map fun p => V.ref p.2.1) (kvs.map fun p => nkD p.1) []) (ok : Own K cl W H (.ref b) (nkD k) []) :
    Owns K cl W H ((putN kvs k b y).map fun p => V.ref p.2.1) ((putN kvs k b y).map fun p => nkD p.1) [] := by
  unfold putN
  split
  · rw [List.map_map, List.map_map]
    have e1 : ((fun p : NestedKey × Addr × V => V.ref p.2.1) ∘ fun p => if p.1 = k then (p.1, p.2.1, y) else p) = fun p => V.ref p.2.1 := by funext p; simp only [Function.comp_def]; split <;> rfl
    have e2 : ((fun p : NestedKey × Addr × V => nkD p.1) ∘ fun p => if p.1 = k then (p.1, p.2.1, y) else p) = fun p => nkD p.1 := by funext p; simp only [Function.comp_def]; split <;> rfl
    rw [e1, e2]
    exact o
  · rw [List.map_append, List.map_append]
    exact Owns.append (F := []) (G := []) o (Owns.cons (F := []) (G := []) ok .nil)
def sDPutU (i : Nat) (p : EP1) (k e : EE) : SS := fun env => (e env).bind fun y => (p env).bind fun l => match getAt i l env with
  | some (.dic true 2 ds) => (k env).bind fun d => if isKey2 d && decide (ds.length < line) && (y.sh || !(lookD d ds).isSome) then some (.nx (setAt i l (.dic true 2 (putD d y ds)) env)) else none
  | _ => sDPut i p k e env
section
variable {X : Cx} {cl : Cl} {io : List Nat} {a b c e : Expr} {f g h : EE} {pos apos : Pos} {i : Nat} {p : EP1}
theorem sm_dputU (hu : X.A.units + 64 < cLine) (he : Se X cl e f) (ha : Pt X cl a i p) (hb : Pk X cl b g) {spos : Pos} (hs : swapsWith e (some (.Subscript a b pos)) spos.line X.env = pure false := by rfl) (hc : ClX X cl := by exact ⟨rfl, rfl⟩) : Sm X cl io (.Assign [.Subscript a b pos] e spos) (sDPutU i p g f) := ⟨fun R F env fl q σ H E D k => by
  have q' := q
  unfold sDPutU at q
  obtain ⟨y, e1, q0⟩ := bind1 q
  obtain ⟨l, e2, q1⟩ := bind1 q0
  split at q1
  rotate_left
  · exact (sm_dput (spos := spos) hu he ha hb hs).run R F env fl q1 σ H E D k
  rename_i ds hg
  obtain ⟨dk, e3, q2⟩ := bind1 q1
  split at q2
  rotate_left
  · cases q2
  rename_i hcond
  cases q2
  simp only [Bool.and_eq_true, decide_eq_true_eq, Bool.or_eq_true, Bool.not_eq_true'] at hcond
  obtain ⟨⟨hk, hlen⟩, hsh⟩ := hcond
  obtain ⟨v, qa, Gx, F1, F2, h1, h2, h3, h4, h5, h6, h7⟩ := E.nodeU hg rfl
  have gx := (List.nodup_cons.mp h5).2
  have gnF : ∀ x ∈ Gx, x ∈ F := fun x hx => h6 x (List.mem_cons_of_mem _ hx)
  refine wS.of (ps_nput (by omega) hc pe_w pe_w pe_w hs) ?_
  refine he.run _ env y e1 σ H E.ev E.vd' _ fun u H1 Gy s1 o1 n1 f1 => ?_
  refine ha.run _ env l e2 σ H1 (E.ev.mono s1) (E.vd'.mono s1) v _ h1 (h2.mono s1) _ fun H2 s2 => ?_
  refine hb.run _ env _ e3 σ H2 (E.ev.mono (s1.trans s2)) (E.vd'.mono (s1.trans s2)) _ fun w H3 G3 s3 o3 => ?_
  have s := (s1.trans s2).trans s3
  have w2 : Own X.K cl ((Gx ++ Gy) ++ (R ++ F)) H3 u y Gy := (o1.mono (s2.trans s3)).weak fun x hx => by
    simp only [List.mem_append] at hx ⊢
    rcases hx with (z | z) | z | z
    · exact .inr (.inr (gnF x z))
    · exact .inl z
    · exact .inr (.inl z)
    · exact .inr (.inr z)
  have grow : ∀ {vs : List V} {xs : List Tg.D} {G : List Addr}, Owns X.K cl (R ++ F) H vs xs G → Owns X.K cl ((Gx ++ Gy) ++ (R ++ F)) H3 vs xs G := fun {vs xs G} hs' => hs'.growS s fun x hx => by
    simp only [List.mem_append] at hx ⊢
    rcases hx with (z | z) | z | z
    · exact .inl (.inr (gnF x z))
    · exact .inr (f1 x z)
    · exact .inl (.inl z)
    · exact .inl (.inr z)
  have ndg : (Gx ++ Gy).Nodup := List.nodup_append.mpr ⟨gx, n1, fun x hx y hy z => E.sl.tracked x (gnF x hx) (by rw [z]; exact f1 y hy)⟩
  cases h4 with
  | dnO hq ok ks en hs' =>
    rename_i o kvs
    obtain ⟨kb, kk, rfl, rfl, hnk, hG3⟩ := own_key2 o3 hk
    subst hG3
    obtain ⟨Gn, k3, k4', k1, k2'⟩ := put_own (kvs := nv kvs) keq_nkD kk w2 (by rw [nv_fst]; exact en) (by rw [nv_snd]; exact grow hs') hsh
    have k2 : Gn.Nodup := k2' ndg
    have hl : kvs.length < sizeLine := by
      have := congrArg List.length en
      simp at this
      rw [this, ← line_eq]; exact hlen
    refine ⟨qa, kvs, kb, kk, rfl, ⟨o, R ++ F, s _ _ hq, ok, by rw [en]; exact ks.mono s⟩, rfl, hnk, hl, fun o' ok' => ?_⟩
    have weakR : ∀ x ∈ Gn ++ (R ++ F), x ∈ (Gx ++ Gy) ++ (R ++ F) := fun x hx => by
      rcases List.mem_append.mp hx with z | z
      · exact List.mem_append_left _ (List.mem_append.mpr (k1 x z))
      · exact List.mem_append_right _ z
    have k4 := k4'.weak (W' := Gn ++ (R ++ F)) weakR
    have o3' : Own X.K cl ((Gx ++ Gy) ++ (R ++ F)) H3 (.ref kb) (nkD kk) [] := o3.nf _ (nkD_nf kk)
    have kp := (keys_put (y := u) (grow (by rw [en]; exact ks)) o3').weak (W' := Gn ++ (R ++ F)) weakR
    have U := h7 H3 Gn [] (ObjE qa o') rfl s (by rw [List.append_nil]; exact k2) (fun x hx => (k1 x hx).elim .inl fun z => .inr (f1 x z)) (fun _ z => nomatch z)
    rw [← nv_put, nv_fst] at k3
    rw [← nv_put, nv_snd] at k4
    obtain ⟨kq1, kq2⟩ := Owns.unapp (by simp) (by rw [show ((putN kvs kk kb u).map fun p => nkD p.1) = ((putN kvs kk kb u).map (·.1)).map nkD from by rw [List.map_map]; rfl]; exact nkDl_shs _) (U.kids _ _ (Owns.append (F := []) kp k4))
    obtain ⟨ep, fr⟩ := U.done (.dic true 2 (putD (nkD kk) y ds)) (.dnO upd_same ok' (by rw [← k3]; exact kq1) k3 kq2)
    exact k σ _ _ ep.er fr Pin.refl⟩
end
end Tg

namespace Tg
open PySem PySem.Spec L2 RT RZ PyProof.Rows
/-! ### walks over the keys of a dict with nested keys -/
/-- the keys of the dict at d, each its own tuple -/
def Itn (d : Addr) (o : Obj) (ks : List Addr) : L2.It :=
  ⟨fun i H => H d = some (ObjE d o) ∧ i < ks.length, fun i H x H' => H' = H ∧ ∃ q, ks[i]? = some q ∧ x = .ref q, fun i H => H d = some (ObjE d o) ∧ ks.length ≤ i⟩
theorem walk_keysN {d : Addr} {o : Obj} {ks : List Addr} : Walk (Itn d o ks) ks.length (fun H => H d = some (ObjE d o)) (YAt (ks.map V.ref)) := by
  refine ⟨fun _ _ hi q => ⟨q, hi⟩, fun _ q => ⟨q, Nat.le_refl _⟩, fun i H x H' _ _ y => ?_⟩
  obtain ⟨rfl, q, h, rfl⟩ := y
  exact ⟨rfl, by rw [List.getElem?_map, h]; rfl⟩
/-- what the object tells of its keys -/
structure KeysOf (d : Addr) (o : Obj) (es : Array DictEntry) (ep : Nat) (ks : List Addr) : Prop where
  sm : (d == sysModules) = false
  ex : o.ExactDict
  dt : o.data = .dict es ep
  sz : es.size = ks.length
  at_ : ∀ (i : Nat) (q : Addr), ks[i]? = some q → ∃ en, es[i]? = some en ∧ en.key = .ref q
theorem keysOf {P : Program} {w : World} {a : Addr} {o : Obj} {kvs : List (NestedKey × Addr × V)} (ok : DnOk P w a o kvs) : ∃ es ep, KeysOf a o es ep (kvs.map (·.2.1)) := by
  obtain ⟨z, hm, hd, ec, es, ep, xs, hdat, rel, he, nd⟩ := ok
  refine ⟨es, ep, hm, ec, hdat, ?_, fun i q hq => ?_⟩
  · rw [size_of_entries he, List.length_map]; exact (Paired.length rel).symm
  · rw [List.getElem?_map] at hq
    cases hk : kvs[i]? with
    | none => rw [hk] at hq; cases hq
    | some p =>
      rw [hk] at hq
      cases hq
      obtain ⟨b, hb, e1, e2, _⟩ := paired_get rel hk
      have q := entry_at he i
      rw [hb] at q
      exact ⟨_, q, by show Value.ref b.2.1 = Value.ref p.2.1; rw [e2]⟩
theorem turn_keysN {P : Program} {w : World} {K : PySem.W.Frag} {tg : Expr} {d : Addr} {o : Obj} {es : Array DictEntry} {ep : Nat} {ks : List Addr} (it : Addr) (ko : KeysOf d o es ep ks) : L2.Turn P w K tg (Itn d o ks) [it] it (fun i h => h.IsKeyIter it d i ks.length ep) where
  mem := by simp
  obj := fun i h st b hb => by
    have e : b = it := by simpa using hb
    subst e
    obtain ⟨oi, e, c, dd⟩ := st
    exact ⟨oi, e, fun v z => by rw [dd] at z; cases z⟩
  keep := fun i h h' st k => st.at fun oi e => k it (by simp) oi e
  item := by
    intro X hP hw hK hc i pins s σ H E I hf st hg
    subst hP hw hK
    obtain ⟨hd, hi⟩ := hg
    obtain ⟨f0, f1, f2, f3, f4, f5⟩ := hf it (by simp)
    have hgd : s.heap.get? d = some o := (show ObjOk _ _ _ _ _ (.ext _) from I.hok d _ hd).1
    obtain ⟨q, hq⟩ : ∃ p, ks[i]? = some p := ⟨ks[i], List.getElem?_eq_getElem hi⟩
    obtain ⟨en, hen, hkey⟩ := ko.at_ i q hq
    refine next_key_item st hgd ko.dt ko.sz hen fun h' st' sb => ?_
    have I1 : Inv X pins σ H { s with heap := h' } := I.turned (t' := s.toks) (fun b ob hb e => (sb.2 b hb).trans e) f0 f1 f3 f4 f5
    obtain ⟨oi, e, c, dd⟩ := id st'
    exact ⟨en.key, rfl, go_of (s := { s with heap := h' }) e c dd (by decide) ⟨.ref q, H, I1, hkey, ⟨rfl, q, hq, rfl⟩, st', fun b hb => (hf b hb).1⟩⟩
  done := by
    intro X hP hw hK hc i pins s σ H E I hf st hg
    subst hP hw hK
    obtain ⟨hd, hi⟩ := hg
    obtain ⟨f0, f1, f2, f3, f4, f5⟩ := hf it (by simp)
    have hgd : s.heap.get? d = some o := (show ObjOk _ _ _ _ _ (.ext _) from I.hok d _ hd).1
    exact next_key_end (I.ok.hd hc) st hgd ko.dt ko.sz hi fun h' eb => ⟨rfl, I.turned (t' := s.toks) (fun b ob hb e => eb b ob hb e) f0 f1 f3 f4 f5⟩
  self := fun A i s Q E st h => by
    refine wpAny_pyIter_slot st.typeIs F.slot_dict_keyiterator_iter (wpAny_call_entry F.slot_dict_keyiterator_iter st.typeIs F.entry_dict_keyiterator_iter ?_ (F.args_dict_keyiterator_iter_1 _))
    show wpAny _ _ (ret (.ref it)) _ _ s
    exact wpAny_pure ⟨_, rfl, "dict_keyiterator", _, st.typeIs, F.slot_dict_keyiterator_next.lookup, h⟩
def iKeysN (td : TE) : L2.TI := fun σ H R => td σ H fun x H1 => ∃ d o es ep ks, x = .ref d ∧ H1 d = some (ObjE d o) ∧ KeysOf d o es ep ks ∧ R (Itn d o ks) H1
theorem pi_keysN {X : Cx} {tg e : Expr} {td : TE} (he : PE X e td) : PI X tg e (iKeysN td) := by
  refine ⟨fun pins s σ H R I h => ?_⟩
  refine thn (he.run pins s σ H _ I h) fun u s1 ⟨x, H1, I1, rx, d, o, es, ep, ks, ex, hd, ko, q⟩ => ?_
  subst ex
  obtain rfl : u = Value.ref d := rx
  have hgd : s1.heap.get? d = some o := (show ObjOk _ _ _ _ _ (.ext _) from I1.hok d _ hd).1
  refine iter_keys ko.sm hgd ko.ex ko.dt (pi_one (tk := s1.toks) I1 _ (turn_keysN _ ko) ⟨_, Heap.get?_push_size _ rfl, rfl, ?_⟩ q)
  rw [ko.sz] <;> rfl
/-- a dict's keys; else as ever -/
def iSeqU (a : EE) : It := fun env => match a env with
  | some (.dic false 2 ds) => some (ds.map (·.1))
  | _ => iSeq a env
section
variable {X : Cx} {cl : Cl} {io : List Nat} {a b c e tg : Expr} {f g h : EE} {pos apos : Pos} {i : Nat} {p : EP1}
theorem ii_seqU {e : Expr} {f : EE} (he : Se X cl e f) : Ii X cl tg e (iSeqU f) := ⟨fun W env ds q σ H E V => by
  unfold iSeqU at q
  split at q
  · rename_i ds0 e1
    cases q
    refine ⟨_, pi_keysN pe_w, fun R k => ?_⟩
    refine he.run W env _ e1 σ H E V _ fun v H1 F s1 o1 n1 f1 => ?_
    cases o1 with
    | dnF h hn ok ks en hs =>
      rename_i d o kvs
      obtain ⟨es, ep, ko⟩ := keysOf ok
      refine ⟨d, o, es, ep, kvs.map (·.2.1), rfl, h, ko, ?_⟩
      have hl : (ds0.map (·.1)).length = (kvs.map (·.2.1)).length := by rw [← en]; simp
      have dn : d ∉ W := fun z => hn (List.mem_append_right _ z)
      refine k (Itn d o _) H1 (fun H => H d = some (ObjE d o)) (YAt ((kvs.map (·.2.1)).map L2.V.ref)) s1 (by rw [hl]; exact walk_keysN) (fun W2 H2 kp => kp.out _ _ dn h) fun i x H2 H3 W2 d' kp y hd => ?_
      obtain ⟨rfl, hx⟩ := y
      refine ⟨Same.refl _, ?_⟩
      obtain ⟨v', G', h1, h2, h3⟩ := ks.get hd
      rw [List.map_map] at hx
      have hx' : (kvs.map fun p => L2.V.ref p.2.1)[i]? = some x := hx
      rw [h1] at hx'
      cases hx'
      have : G' = [] := List.eq_nil_iff_forall_not_mem.mpr fun a ha => nomatch h3 a ha
      subst this
      exact (h2.weak (W' := W) fun a ha => List.mem_append_right _ ha).keep kp
  · exact (ii_seq he).run W env ds q σ H E V⟩
/-! ### isinstance -/
def isDictTy : Ty → Bool
  | .dict => true
  | _ => false
theorem kit_dict {K : PySem.W.Frag} (t : Ty) : PySem.W.kitOne K (.type "dict") (.type (tyS t)) = some (isDictTy t) := by cases t <;> exact kit_ty (by decide +kernel)
def eInstU (t : Ty) (a : EE) : EE := fun env => match a env with
  | some (.dic _ 2 _) => some (.bl (isDictTy t))
  | _ => eInst t a env
section
variable {X : Cx} {cl : Cl} {io : List Nat} {a b c e tg : Expr} {f g h : EE} {pos apos : Pos} {i : Nat} {p : EP1}
theorem call_isiN (hc : ClX X cl) : CallR X (.builtin "isinstance") (fun xs H Q => ∃ a kvs t r, xs = [.ref a, .ty t] ∧ NDict X.K cl H a kvs ∧ PySem.W.kitOne X.K (.type "dict") (.type t) = some r ∧ Q (.bl r) H) := by
  intro pins s σ H xs us Q I r h
  obtain ⟨a, kvs, t, b, rfl, hd, e, q⟩ := h
  obtain ⟨u1, u2, rfl, r1, r2⟩ := vals2 r
  obtain rfl : u1 = Value.ref a := r1
  obtain rfl : u2 = Value.type t := r2
  obtain ⟨_, _, xs', _, o, es, ep, h1, h2, _⟩ := nd_heap hc I hd
  exact PySem.W.kia_one PySem.W.kitx_dict I.kIn ⟨o, h1, h2.1⟩ e (fun z => nomatch z) fun tk => ⟨.bl b, H, I.tok tk, rfl, q⟩
theorem se_isiU {t : Ty} {x : Str} {p q : Pos} (ha : Pk X cl a f) (hg : Gl X "isinstance") (hm : X.mg "isinstance" = none) (hg2 : Gl X x) (hm2 : X.mg x = none) (hv2 : bootBuiltins x = some (.type (tyS t)))
    (hn2 : x ≠ "__name__" := by decide) (hd2 : (x == ("__debug__" : Str)) = false := by decide)
    (h1 : starEach [a, .Name x q] X.env = (false, eval a X.env) :: starEach [.Name x q] X.env := by rfl) (h2 : starEach [.Name x q] X.env = (false, eval (.Name x q) X.env) :: starEach [] X.env := by rfl)
    (hpl : (backTo pos (starEach [.Name x q] X.env)).any (·.1) = false := by rfl) (hc : ClX X cl := by exact ⟨rfl, rfl⟩) : Se X cl (.Call (.Name "isinstance" p) [a, .Name x q] [] pos) (eInstU t f) := ⟨fun W env d q σ H E V Q k => by
  unfold eInstU at q
  split at q
  · rename_i ds e1
    cases q
    have hk := kit_dict (K := X.K) t
    refine wE.of (pe_callB (call_isiN hc) hg hm (by decide +kernel) (pa_cons pe_w (pa_cons (pe_bltn (v := .ty (tyS t)) hg2 hm2 hv2 rfl hn2 hd2) pa_nil h2) h1) (by decide) (by decide) h1 hpl) ?_
    refine ha.run W env _ e1 σ H E V _ fun v H1 F s1 o1 => ?_
    obtain ⟨a', kvs, G, rfl, hd, _⟩ := own_dic2 o1
    exact ⟨a', kvs, tyS t, _, rfl, hd, hk, k _ H1 [] s1 (.bl _) List.nodup_nil (fun _ z => nomatch z)⟩
  · exact (se_isi ha hg hm hg2 hm2 hv2 hn2 hd2 h1 h2 hpl).run W env d q σ H E V Q k⟩
end
end
end Tg

namespace Tg
open PySem PySem.Spec L2 RT RZ PyProof.Rows
/-! ### paths through dicts -/
section
variable {X : Cx} {cl : Cl} {io : List Nat} {a b c e : Expr} {f g h : EE} {pos apos : Pos} {i : Nat} {p : EP1}
theorem pt_ky (hu : X.A.units + 64 < cLine) (ha : Pt X cl a i p) (hb : Pk X cl b g) (hs : NoSl b) (hc : ClX X cl := by exact ⟨rfl, rfl⟩) : Pt X cl (.Subscript a b pos) i (qKy p g) := ⟨fun W env l q σ H E V v u hσ hn Q k => by
  unfold qKy at q
  obtain ⟨l0, d, e1, e2, q3⟩ := bind2 q
  cases q3
  obtain ⟨w, n1, n2⟩ := hn.snoc
  obtain ⟨a', rfl, n2⟩ := n2
  rcases n2 with ⟨kvs, kk, h1, rfl, h2⟩ | ⟨o, kvs, kk, W0, h1, ok, ks, rfl, h2⟩
  · refine wE.of (pe_dget (by omega) pe_w pe_w hs) ?_
    refine ha.run W env l0 e1 σ H E V v _ hσ n1 _ fun H1 s1 => ?_
    refine hb.run W env _ e2 σ H1 (E.mono s1) (V.mono s1) _ fun z H2 G s2 o2 => ?_
    have hz : z = kV kk := by
      obtain ⟨k2, e3, e4⟩ := own_key0 o2 (by cases kk <;> rfl)
      rw [e3]
      have := keq_kD kk k2
      rw [← e4] at this
      have hr : D.keq (kD kk) (kD kk) = true := by rw [keq_kD]; simp
      rw [hr] at this
      rw [of_decide_eq_true this.symm]
    subst hz
    exact ⟨a', u, rfl, .inl ⟨kvs, kk, .inl ((s1.trans s2) _ _ h1), rfl, h2.symm⟩, k H2 (s1.trans s2)⟩
  · refine wE.of (pe_nget hu hc pe_w pe_w hs) ?_
    refine ha.run W env l0 e1 σ H E V v _ hσ n1 _ fun H1 s1 => ?_
    refine hb.run W env _ e2 σ H1 (E.mono s1) (V.mono s1) _ fun z H2 G s2 o2 => ?_
    -- the key is one of the dict's
    obtain ⟨pp, hp, hpk⟩ : ∃ pp, pp ∈ kvs ∧ pp.1 = kk := by
      unfold valV at h2
      cases hf : (nv kvs).find? fun kv => decide (kv.1 = kk) with
      | none => rw [hf] at h2; cases h2
      | some x =>
        have hm := List.mem_of_find?_eq_some hf
        have hx := List.find?_some hf
        unfold nv at hm
        obtain ⟨pp, hp, rfl⟩ := List.mem_map.mp hm
        exact ⟨pp, hp, of_decide_eq_true hx⟩
    have hdep : kk.depth ≤ 8 := by rw [← hpk]; exact ok.2.2.1 pp hp
    have hown : ∃ F', Own X.K cl W0 H (.ref pp.2.1) (nkD kk) F' := by
      obtain ⟨j, hj⟩ := List.getElem?_of_mem hp
      have hj2 : (kvs.map fun p => nkD p.1)[j]? = some (nkD kk) := by rw [List.getElem?_map, hj, ← hpk]; rfl
      obtain ⟨v', G', g1, g2, _⟩ := ks.get hj2
      rw [List.getElem?_map, hj] at g1
      cases g1
      exact ⟨G', g2⟩
    obtain ⟨F', hown⟩ := hown
    obtain ⟨b', hb'⟩ : ∃ b', z = .ref b' := by
      cases kk with
      | none => have h0 : Own X.K cl W0 H (.ref pp.2.1) .non F' := hown; cases h0
      | num i => have h0 : Own X.K cl W0 H (.ref pp.2.1) (.int i) F' := hown; cases h0
      | text x => have h0 : Own X.K cl W0 H (.ref pp.2.1) (.str x.cps.toList) F' := hown; cases h0
      | tup xs =>
        have h0 : Own X.K cl W H2 z (.tup (nkDs xs)) G := o2
        obtain ⟨b', vs, e3, _⟩ := own_tupH h0
        exact ⟨b', e3⟩
    subst hb'
    exact ⟨a', kvs, b', kk, u, rfl, ⟨o, W0, (s1.trans s2) _ _ h1, ok, ks.mono (s1.trans s2)⟩, rfl, ⟨hdep, W, G, o2⟩, h2, k H2 (s1.trans s2)⟩⟩
/-! ### {k: v, ..}, the values one's own -/
def dpConsO (k v : EE) (r : EPs) : EPs := fun env => (k env).bind fun x => (v env).bind fun y => (r env).bind fun z => if isKey0 x then some ((x, y) :: z) else none
structure DpO (X : Cx) (cl : Cl) (ks : List (Option Expr)) (vs : List Expr) (r : EPs) : Prop where
  run : ∃ trs, (∀ pos, PPs X pos ks vs trs) ∧ ∀ (W : List Addr) (env : Env) (ds : List (Tg.D × Tg.D)), r env = some ds → ∀ (σ : L2.St) (H : Hp), EV X.K cl W H σ env → VD W H → ∀ Q : List (L2.V × L2.V) → Hp → Prop,
    (∀ (kvs : List (Key × L2.V)) H' F, Same H H' → kvs.map (fun p => kD p.1) = ds.map (·.1) → Owns X.K cl (F ++ W) H' (kvs.map (·.2)) (ds.map (·.2)) F → F.Nodup → (∀ a ∈ F, H a = none) → Q (kvs.map fun kv => (kV kv.1, kv.2)) H') → tPairs trs σ H Q
theorem dpO_nil : DpO X cl [] [] dpNil := ⟨[], fun _ => pps_nil, fun W env ds q σ H E V Q k => by
  cases q
  exact k [] H [] (Same.refl H) rfl .nil List.nodup_nil (fun _ z => nomatch z)⟩
theorem dpO_cons {k v : Expr} {ks : List (Option Expr)} {vs : List Expr} {r : EPs} (hk : Se X cl k f) (hv : Se X cl v g) (hr : DpO X cl ks vs r) : DpO X cl (some k :: ks) (v :: vs) (dpConsO f g r) := by
  obtain ⟨trs, h1, h2⟩ := hr.run
  refine ⟨(wE X k, wE X v) :: trs, fun pos => pps_cons pe_w pe_w (h1 pos), fun W env ds q σ H E V Q kq => ?_⟩
  unfold dpConsO at q
  obtain ⟨x, e1, q1⟩ := bind1 q
  obtain ⟨y, e2, q2⟩ := bind1 q1
  obtain ⟨z, e3, q3⟩ := bind1 q2
  split at q3
  rotate_left
  · cases q3
  rename_i hh
  cases q3
  refine hk.run W env x e1 σ H E V _ fun u H1 F1 s1 o1 n1 f1 => ?_
  refine hv.run W env y e2 σ H1 (E.mono s1) (V.mono s1) _ fun w H2 F s2 o2 n2 f2 => ?_
  have V2 : VD (F ++ W) H2 := fun a ha => (List.mem_append.mp ha).elim (o2.tracked a) (V.mono (s1.trans s2) a)
  have E2 := ((E.mono s1).grow (W' := F ++ W) fun a ha => (List.mem_append.mp ha).elim (fun z => .inr (f2 a z)) .inl).mono s2
  refine h2 (F ++ W) env z e3 σ H2 E2 V2 _ fun kvs H3 G s3 g1 g2 g3 g4 => ?_
  obtain ⟨kk, rfl, rfl⟩ := own_key0 o1 hh
  refine kq ((kk, w) :: kvs) H3 (F ++ G) ((s1.trans s2).trans s3) (by simp [g1]) (Owns.cons (o2.growS s3 fun a ha => ?_) (g2.weak fun a ha => ?_)) (fresh_join s2 n2 g3 o2.tracked g4) fun a ha => ?_
  · rcases List.mem_append.mp ha with ha | ha
    · rcases List.mem_append.mp ha with ha | ha
      · exact .inl (List.mem_append_left _ ha)
      · exact .inr (g4 a ha)
    · exact .inl (List.mem_append_right _ ha)
  · rcases List.mem_append.mp ha with ha | ha
    · rcases List.mem_append.mp ha with ha | ha
      · exact List.mem_append_right _ (List.mem_append_left _ ha)
      · exact List.mem_append_left _ ha
    · exact List.mem_append_right _ (List.mem_append_right _ ha)
  rcases List.mem_append.mp ha with ha | ha
  · exact Same.back s1 (f2 a ha)
  · exact Same.back (s1.trans s2) (g4 a ha)
theorem se_dispO {ks : List (Option Expr)} {vs : List Expr} {r : EPs} (h : DpO X cl ks vs r) (hall : ks.all (·.isSome) = true := by rfl) (hl : ks.length = vs.length := by rfl) (h0 : ks ≠ [] := by simp) (h15 : ks.length ≤ 15 := by decide) : Se X cl (.Dict ks vs pos) (eDisp r) := ⟨fun W env d q σ H E V Q k => by
  unfold eDisp at q
  obtain ⟨ds, e1, q1⟩ := bind1 q
  split at q1
  rotate_left
  · cases q1
  rename_i hh
  rw [Bool.and_eq_true, decide_eq_true_eq] at hh
  cases q1
  obtain ⟨trs, h1, h2⟩ := h.run
  refine wE.of (pe_disp (h1 pos) hall hl h0 h15) fun p hp => ?_
  have s0 : Same H (upd H p (.dK [])) := same_new hp
  have V1 : VD (p :: W) (upd H p (.dK [])) := fun a ha => (List.mem_cons.mp ha).elim (fun z => by rw [z, upd_same]; simp) (V.mono s0 a)
  refine h2 (p :: W) env ds e1 σ _ ((E.grow fun a ha => (List.mem_cons.mp ha).elim (fun z => .inr (by rw [z]; exact hp)) .inl).mono s0) V1 _ fun kvs H2 F s2 g1 g2 g3 g4 => ?_
  have hp2 : H2 p = some (.dK []) := s2 _ _ upd_same
  have hlen : kvs.length = ds.length := by
    have := congrArg List.length g1
    simpa using this
  refine ⟨hp2, kvs, rfl, by omega, ?_⟩
  have hm : mergeK [] kvs = kvs := by
    have := mergeK_app kvs [] (fun _ _ _ h => nomatch h) (nodupK_keys g1 hh.1)
    simpa using this
  rw [hm]
  have pF : p ∉ F := fun z => by
    have := g4 p z
    rw [upd_same] at this
    cases this
  have kp : Keep (F ++ (p :: W)) ((p :: F) ++ W) F H2 (upd H2 p (.dK kvs)) := by
    refine ⟨fun b hb o e => ?_, fun b o hb e => ?_, fun b vs0 e => ?_, fun b o u0 e => ?_, fun b hb _ z => hb ?_⟩
    · rw [upd_ne (fun z => pF (by rw [← z]; exact hb))]; exact e
    · rw [upd_ne (fun z => hb (by rw [z]; simp))]; exact e
    · rw [upd_ne (fun z => by rw [z, hp2] at e; cases e)]; exact e
    · rw [upd_ne (fun z => by rw [z, hp2] at e; cases e)]; exact e
    · simp only [List.mem_append, List.mem_cons] at z ⊢
      rcases z with (z | z) | z <;> simp [z]
  have hsame : Same H (upd H2 p (.dK kvs)) := Same.put (s0.trans s2) hp hp2 dK_code
  refine k _ _ (p :: F) hsame (Own.dicO upd_same g1 (g2.keep kp)) (List.nodup_cons.mpr ⟨pF, g3⟩) fun b hb => ?_
  rcases List.mem_cons.mp hb with z | z
  · rw [z]; exact hp
  · exact Same.back s0 (g4 b z)⟩
end
end Tg

namespace Tg
open PySem PySem.Spec L2 RT RZ PyProof.Rows
/-! ### a text so many times -/
def repS (x : List Nat) (k : Nat) : List Nat := (List.replicate k x).flatten
theorem foldl_repS (x : Array Nat) : ∀ (m : Nat) (acc : Array Nat), (List.replicate m x).foldl (· ++ ·) acc = acc ++ (repS x.toList m).toArray
  | 0, acc => by simp [repS]
  | m + 1, acc => by
    rw [List.replicate_succ, List.foldl_cons, foldl_repS x m]
    apply Array.toList_inj.mp
    simp [repS, List.replicate_succ]
def rRepS : R2 := fun x y H Q => ∃ (z : List Nat) (k : Int), x = .str ⟨z.toArray⟩ ∧ y = .int k ∧ 0 ≤ k ∧ k < 1000000 ∧ z.length < 10 ∧ Q (.str ⟨(repS z k.toNat).toArray⟩) H
theorem repS_len (x : List Nat) (k : Nat) : (repS x k).length = k * x.length := by
  unfold repS
  rw [List.length_flatten]
  simp
theorem op_repS {X : Cx} : OpR X (binaryOp .Mult) rRepS := by
  intro pins s σ H x y v u Q I rx ry h
  obtain ⟨z, k, rfl, rfl, h0, h1, h2, q⟩ := h
  obtain ⟨t, rfl⟩ := rx
  obtain ⟨t', rfl⟩ := ry
  have hlen : (⟨z.toArray⟩ : Str).length = z.length := by simp [Str.length]
  have hmul : z.length * k.toNat ≤ 10 * 1000000 := Nat.mul_le_mul (by omega) (by omega)
  have hl : z.length * k.toNat ≤ sizeLine := by rw [sizeLine_eq]; omega
  refine P.mul_str ?_ ?_ ?_ ?_
  · rw [decide_eq_false (by omega), decide_eq_false (by omega)]; rfl
  · intro a b c
    rw [hlen] at c
    have : (2 ^ 63 - 1 : Int) / k ≥ (2 ^ 63 - 1) / 1000000 := by
      apply Int.le_trans (b := (2 ^ 63 - 1 : Int) / 1000000) (by decide)
      rw [Int.le_ediv_iff_mul_le (by omega)]
      have : (2 ^ 63 - 1 : Int) / 1000000 * k ≤ (2 ^ 63 - 1 : Int) / 1000000 * 1000000 := Int.mul_le_mul_of_nonneg_left (by omega) (by decide)
      exact Int.le_trans this (by decide)
    omega
  · intro a b
    rw [hlen]
    show decide (z.length * k.toNat > sizeLine) = false
    exact decide_eq_false (by omega)
  · split
    · rename_i hk
      have : k = 0 := by omega
      subst this
      exact ⟨by decide, ⟨.str _, H, I.tok _, ⟨_, rfl⟩, q⟩⟩
    · split
      · rename_i hk hb
        refine ⟨.str _, H, I, ⟨_, rfl⟩, ?_⟩
        simp only [Bool.or_eq_true, beq_iff_eq] at hb
        rw [hlen] at hb
        have e : repS z k.toNat = z := by
          rcases hb with hb | hb
          · subst hb; simp [repS]
          · have : z = [] := List.length_eq_zero_iff.mp hb
            subst this
            simp [repS]
        rw [e] at q
        exact q
      · rw [foldl_repS]
        refine ⟨?_, ⟨.str _, H, I.tok _, ⟨_, rfl⟩, ?_⟩⟩
        · show (#[] ++ (repS z k.toNat).toArray).size ≤ sizeLine
          rw [Array.empty_append]
          simp only [List.size_toArray, repS_len]
          rw [Nat.mul_comm]; exact hl
        · have e : (#[] ++ (repS z k.toNat).toArray : Array Nat) = (repS z k.toNat).toArray := Array.empty_append
          rw [show (z.toArray.toList) = z from by simp, e]
          exact q
def gMulU : D → D → Option D
  | .str x, .int k => if 0 ≤ k ∧ k < 1000000 ∧ x.length < 10 then some (.str (repS x k.toNat)) else none
  | a, b => gMul a b
theorem go_mulU {X : Cx} {cl : Cl} : GO X cl (binaryOp .Mult) gMulU := ⟨fun dx dy d q => by
  unfold gMulU at q
  split at q
  · split at q
    · rename_i hc
      cases q
      refine ⟨_, op_repS, fun W H x y Fx Fy V ox oy Q k => ?_⟩
      cases own_str ox
      cases own_int oy
      exact ⟨_, _, rfl, rfl, hc.1, hc.2.1, hc.2.2, k.str' rfl⟩
    · cases q
  · exact go_mul.run dx dy d q⟩
@[simp] theorem gMulU_s (x : List Nat) (k : Int) : gMulU (.str x) (.int k) = if 0 ≤ k ∧ k < 1000000 ∧ x.length < 10 then some (.str (repS x k.toNat)) else none := (rfl)
@[simp] theorem gMulU_i (i : Int) (y : D) : gMulU (.int i) y = gMul (.int i) y := (rfl)
end Tg

namespace Tg
/-! ## second names, setdefault, by their arguments -/
@[simp] theorem sSetD_ev (i : Nat) (p : EP1) (g h : EE) (env : Env) : sSetD i p g h env = (p env).bind fun l => match getAt i l env with
  | some (.dic true 0 ds) => (g env).bind fun d => (h env).bind fun y => match y with
    | .int z => if isKey 0 d && decide (ds.length < line) then (if (lookD d ds).isSome then some (.nx env) else some (.nx (setAt i l (.dic true 0 (putD d (.int z) ds)) env))) else none
    | _ => none
  | _ => none := (rfl)
theorem alE_v (i j : Nat) (ix : Int) (env : Env) : alE i j ix env = match env[i]? with
  | some (.lst true xs) => (atD xs ix).map fun d => env.set j d
  | _ => none := (rfl)
theorem alL_v (i : Nat) (ix : Int) (env : Env) : alL i ix env = match env[i]? with
  | some (.lst true xs0) => (match atD xs0 ix with
    | some (.lst true xs) => some xs
    | _ => none)
  | _ => none := (rfl)
@[simp] theorem sIfA_ev (i j : Nat) (ix : Int) (c : EE) (s t : SS) (env : Env) : sIfA i j ix c s t env = tst ((alE i j ix env).bind c) (s env) (t env) := (rfl)
@[simp] theorem sPutA_ev (i j : Nat) (ix : Int) (k e : EE) (env : Env) : sPutA i j ix k e env = (e env).bind fun y => (alL i ix env).bind fun xs => (k env).bind fun d => match d with
  | .int z => (match ixD xs.length z with
    | some n => some (.nx (setAt i [.ix (.int ix)] (.lst true (xs.set n y)) env))
    | none => none)
  | _ => none := (rfl)
@[simp] theorem sOpenA_ev (i j : Nat) (ix : Int) (p : EP1) (t : SS) (env : Env) : sOpenA i j ix p t env = (p env).bind fun l => match l with
  | [.ix (.int z)] => if z = ix ∧ i ≠ j ∧ j < env.length then (match env[i]? with
    | some (.lst true xs0) => if (atD xs0 ix).isSome then t (env.set j .hole) else none
    | _ => none) else none
  | _ => none := (rfl)
@[simp] theorem sAppA_ev (i j : Nat) (ix : Int) (k : Nat) (p : EP1) (f : EE) (env : Env) : sAppA i j ix k p f env = (p env).bind fun l => match getAt k l env with
  | some (.lst true xs) => ((alE i j ix env).bind f).bind fun y => if xs.length < line then some (.nx (setAt k l (.lst true (xs ++ [y])) env)) else none
  | _ => none := (rfl)
/-- pairs of places and items -/
def enumD (k : Nat) : List D → List D
  | [] => []
  | x :: r => .tup [.int (k : Int), x] :: enumD (k + 1) r
theorem enumD_range' (xs : List D) : ∀ k : Nat, (List.range' k xs.length).zipWith (fun (k : Nat) x => D.tup [.int (k : Int), x]) xs = enumD k xs := by
  induction xs with
  | nil => intro k; rfl
  | cons x r ih => intro k; rw [List.length_cons, List.range'_succ, List.zipWith_cons_cons, ih]; rfl
theorem enumD_range (xs : List D) : (List.range xs.length).zipWith (fun (k : Nat) x => D.tup [.int (k : Int), x]) xs = enumD 0 xs := by
  rw [List.range_eq_range', enumD_range']
end Tg

namespace Tg
open PySem PySem.Spec L2 RT RZ PyProof.Rows
/-! ### list(zip(a, b))[::-1] -/
theorem zip_nolen : typeLookup (.type "zip") "__len__" = pure none := by rw [typeLookup_type, builtinLookup_eq_fast]; kernel_rfl
theorem zip_nohint : typeLookup (.type "zip") "__length_hint__" = pure none := by rw [typeLookup_type, builtinLookup_eq_fast]; kernel_rfl
section
variable {P : Program} {w : World} {A : Around} {E : Value → Shared → Prop} {s : Shared}
/-- amid the draining -/
structure ZSt (h : Heap) (S z TI TO i1 i2 l1 l2 : Addr) (xs ys : Array Value) (base k : Nat) (Ts : List Addr) : Prop where
  st : (k = 0 ∧ IsZip h z TI TO .none ∧ ∃ a b, IsPair h TO a b) ∨ ∃ T f, IsZipHeld h z TI TO T f ∧ base ≤ T ∧ ∃ o, h.get? T = some o
  ti : IsPair h TI (.ref i1) (.ref i2)
  it1 : h.IsListIter i1 l1 k
  it2 : h.IsListIter i2 l2 k
  hl1 : h.IsList l1 xs
  hl2 : h.IsList l2 ys
  at_ : ∃ acc c, h.get? S = some { cls := .type "list", data := .seq acc c } ∧ acc.toList = Ts.map Value.ref
  len : Ts.length = k
  ts : ∀ (j : Nat) (T : Addr), Ts[j]? = some T → ∃ x y, xs[j]? = some x ∧ ys[j]? = some y ∧ IsPair h T x y
  ap : ∀ T ∈ Ts, base ≤ T
  nd : Ts.Nodup
structure ZAp (S z TI TO i1 i2 l1 l2 : Addr) (base : Nat) : Prop where
  D : ZipApart z TI TO i1 i2 l1 l2
  sz : S ≠ z
  sTI : S ≠ TI
  sTO : S ≠ TO
  s1 : S ≠ i1
  s2 : S ≠ i2
  sl1 : S ≠ l1
  sl2 : S ≠ l2
  bS : S < base
  bz : z < base
  bTO : TO < base
  b1 : i1 < base
  b2 : i2 < base
theorem zip_drain {S z TI TO i1 i2 l1 l2 : Addr} {base : Nat} {xs ys : Array Value} {R : Result → Shared → Prop} (hh : A.handled = none) (a : ZAp S z TI TO i1 i2 l1 l2 base) (hn : xs.size ≤ sizeLine) : ∀ (m k : Nat) (s : Shared) (Ts : List Addr), min xs.size ys.size = k + m → base ≤ s.heap.objs.size → ZSt s.heap S z TI TO i1 i2 l1 l2 xs ys base k Ts →
    (∀ (h' : Heap) (Ts' : List Addr) (acc : Array Value) (c : Nat), h'.get? S = some { cls := .type "list", data := .seq acc c } → acc.toList = Ts'.map Value.ref → Ts'.length = min xs.size ys.size → (∀ (j : Nat) (T : Addr), Ts'[j]? = some T → ∃ x y, xs[j]? = some x ∧ ys[j]? = some y ∧ IsPair h' T x y) → (∀ T ∈ Ts', base ≤ T) → Ts'.Nodup →
      (∀ b o, b ≠ S → b ≠ z → b ≠ TO → b ≠ i1 → b ≠ i2 → s.heap.get? b = some o → h'.get? b = some o) → R (.ok (.ret .none)) { s with heap := h' }) →
    codeAny (model P w) A (.builtin "list.extend.loop" ⟨[.ref S, .ref z, .none], []⟩) R s := by
  intro m
  induction m with
  | zero =>
    intro k s Ts hk hb Z hR
    refine codeAny_builtin F.entry_extend_loop ?_
    rw [Around.under_plainId F.plain_extend_loop _]
    show wpAny _ A.in1 (pyNext (.ref z) >>= _) _ _ s
    have hend : xs[k]? = none ∨ ys[k]? = none := by
      rcases Nat.le_total xs.size ys.size with h | h
      · left; rw [Array.getElem?_eq_none_iff]; omega
      · right; rw [Array.getElem?_eq_none_iff]; omega
    obtain ⟨acc, c, hS, hacc⟩ := Z.at_
    have fin : ∀ h', (∀ b o, b ≠ z → b ≠ TO → b ≠ i1 → b ≠ i2 → s.heap.get? b = some o → h'.get? b = some o) → R (.ok (.ret .none)) { s with heap := h' } := fun h' kp => by
      refine hR h' Ts acc c (kp S _ a.sz a.sTO a.s1 a.s2 hS) hacc (by rw [Z.len]; omega) (fun j T hj => ?_) Z.ap Z.nd fun b o _ b1 b2 b3 b4 q => kp b o b1 b2 b3 b4 q
      obtain ⟨x, y, e1, e2, e3⟩ := Z.ts j T hj
      have hT := Z.ap T (List.mem_of_getElem? hj)
      exact ⟨x, y, e1, e2, kp T _ (Nat.ne_of_gt (Nat.lt_of_lt_of_le a.bz hT)) (Nat.ne_of_gt (Nat.lt_of_lt_of_le a.bTO hT)) (Nat.ne_of_gt (Nat.lt_of_lt_of_le a.b1 hT)) (Nat.ne_of_gt (Nat.lt_of_lt_of_le a.b2 hT)) e3⟩
    rcases Z.st with ⟨_, hz, u, v, hTO⟩ | ⟨T, f, hz, hbT, oT, hT⟩
    · refine wpAny_bind (wpAny_pyNext_zip_end (A := A.in1) hh a.D hz Z.ti hTO Z.it1 Z.it2 Z.hl1 Z.hl2 hend fun h' kp => wpAny_pure ?_)
      exact fin h' kp
    · refine wpAny_bind (wpAny_pyNext_zip_end_held (A := A.in1) hh a.D hz hT Z.ti Z.it1 Z.it2 Z.hl1 Z.hl2 hend fun h' kp => wpAny_pure ?_)
      exact fin h' fun b o b1 _ b3 b4 q => kp b o b1 b3 b4 q
  | succ m ih =>
    intro k s Ts hk hb Z hR
    refine codeAny_builtin F.entry_extend_loop ?_
    rw [Around.under_plainId F.plain_extend_loop _]
    show wpAny _ A.in1 (pyNext (.ref z) >>= _) _ _ s
    have hkx : k < xs.size := by omega
    have hky : k < ys.size := by omega
    have hx : xs[k]? = some xs[k] := Array.getElem?_eq_getElem hkx
    have hy : ys[k]? = some ys[k] := Array.getElem?_eq_getElem hky
    obtain ⟨acc, c, hS, hacc⟩ := Z.at_
    have hal : acc.size = k := by
      have := congrArg List.length hacc
      rw [Array.length_toList, List.length_map, Z.len] at this
      exact this
    -- behind the item
    have go : ∀ h', (∃ T f, IsZipHeld h' z TI TO T f ∧ base ≤ T ∧ ∃ o, h'.get? T = some o) → h'.IsListIter i1 l1 (k + 1) → h'.IsListIter i2 l2 (k + 1) → IsPair h' s.heap.objs.size xs[k] ys[k] → h'.objs.size = s.heap.objs.size + 1 →
        (∀ b o, b ≠ z → b ≠ TO → b ≠ i1 → b ≠ i2 → s.heap.get? b = some o → h'.get? b = some o) → 
        wpAny (model P w) A.in1 (updateSeq S (·.push (.ref s.heap.objs.size)) >>= fun _ => again (.builtin "list.extend.loop" ⟨[.ref S, .ref z, .none], []⟩)) (fun fin s' => match fin with | .done f => R (.ok f) s' | .again c' => c'.quiet = true ∧ codeAny (model P w) A c' R s') (fun e s' => R (.error e) s') { s with heap := h' } := by
      intro h' ⟨T0, f, hz', hbT0, oT0, hT0⟩ g1 g2 g3 g4 kp
      have hS' := kp S _ a.sz a.sTO a.s1 a.s2 hS
      refine wpAny_bind (wpAny_updateSeq (s := { s with heap := h' }) hS' rfl (wpAny_pure ⟨plainId_quiet F.plain_extend_loop _, ?_⟩) (by omega) (by show (acc.push _).size ≤ sizeLine + 1; rw [Array.size_push]; omega))
      have oth : ∀ b o, b ≠ S → h'.get? b = some o → (h'.update S (Obj.mapSeq (·.push (.ref s.heap.objs.size)))).get? b = some o := fun b o hbS e => (Heap.get?_update_other _ _ (Ne.symm hbS)).trans e
      have hSz : S < s.heap.objs.size := Nat.lt_of_lt_of_le a.bS hb
      have newS : s.heap.objs.size ≠ S := Nat.ne_of_gt hSz
      have hS2 := Heap.get?_update_self (Obj.mapSeq (·.push (.ref s.heap.objs.size))) hS' rfl
      refine ih (k + 1) { s with heap := h'.update S (Obj.mapSeq (·.push (.ref s.heap.objs.size))) } (Ts ++ [s.heap.objs.size]) (by omega) ?_ ?_ ?_
      · show base ≤ (h'.update S _).objs.size
        rw [Heap.size_update, g4]; omega
      · refine ⟨.inr ⟨T0, f, oth z _ (Ne.symm a.sz) hz', hbT0, oT0, oth _ _ (Nat.ne_of_gt (Nat.lt_of_lt_of_le a.bS hbT0)) hT0⟩, oth TI _ (Ne.symm a.sTI) (kp TI _ a.D.TIz a.D.TITO a.D.TIi1 a.D.TIi2 Z.ti), g1.at fun o q => oth i1 o (Ne.symm a.s1) q, g2.at fun o q => oth i2 o (Ne.symm a.s2) q, ?_, ?_, ⟨_, _, hS2, ?_⟩, by rw [List.length_append, Z.len]; rfl, fun j T hj => ?_, fun T hT => ?_, ?_⟩
        · obtain ⟨o, e, r⟩ := Z.hl1
          exact ⟨o, oth l1 o (Ne.symm a.sl1) (kp l1 o a.D.l1z a.D.l1TO a.D.l1i1 a.D.l1i2 e), r⟩
        · obtain ⟨o, e, r⟩ := Z.hl2
          exact ⟨o, oth l2 o (Ne.symm a.sl2) (kp l2 o a.D.l2z a.D.l2TO a.D.l2i1 a.D.l2i2 e), r⟩
        · simp [hacc]
        · by_cases hjl : j < Ts.length
          · rw [List.getElem?_append_left hjl] at hj
            obtain ⟨x, y, e1, e2, e3⟩ := Z.ts j T hj
            have hT := Z.ap T (List.mem_of_getElem? hj)
            exact ⟨x, y, e1, e2, oth T _ (Nat.ne_of_gt (Nat.lt_of_lt_of_le a.bS hT)) (kp T _ (Nat.ne_of_gt (Nat.lt_of_lt_of_le a.bz hT)) (Nat.ne_of_gt (Nat.lt_of_lt_of_le a.bTO hT)) (Nat.ne_of_gt (Nat.lt_of_lt_of_le a.b1 hT)) (Nat.ne_of_gt (Nat.lt_of_lt_of_le a.b2 hT)) e3)⟩
          · have hl2 := (List.getElem?_eq_some_iff.mp hj).1
            have e : j = Ts.length := by simp at hl2; omega
            subst e
            rw [List.getElem?_append_right (Nat.le_refl _), Nat.sub_self] at hj
            have hj : s.heap.objs.size = T := by simpa using hj
            subst hj
            rw [Z.len]
            exact ⟨_, _, hx, hy, oth _ _ newS g3⟩
        · rcases List.mem_append.mp hT with z1 | z1
          · exact Z.ap T z1
          · rw [List.mem_singleton.mp z1]; exact hb
        · rw [List.nodup_append]
          refine ⟨Z.nd, by simp, fun t ht u hu e => ?_⟩
          rw [List.mem_singleton] at hu
          obtain ⟨j, hj, ej⟩ := List.mem_iff_getElem.mp ht
          obtain ⟨x, y, _, _, e3⟩ := Z.ts j t (by rw [List.getElem?_eq_getElem hj, ej])
          exact absurd (e.trans hu) (Nat.ne_of_lt (Heap.lt_size e3))
      · exact fun h'' Ts' acc' c' e1 e2 e3 e4 e5 e6 kp' => hR h'' Ts' acc' c' e1 e2 e3 e4 e5 e6 fun b o hbS b1 b2 b3 b4 q => kp' b o hbS b1 b2 b3 b4 (oth b o hbS (kp b o b1 b2 b3 b4 q))
    rcases Z.st with ⟨_, hz, u, v, hTO⟩ | ⟨T, f, hz, hbT, oT, hT⟩
    · exact wpAny_bind (wpAny_pyNext_zip_item (A := A.in1) a.D hz Z.ti hTO Z.it1 Z.it2 Z.hl1 Z.hl2 hx hy fun h' q1 q2 q3 q4 q5 q6 q7 => go h' ⟨_, false, q1, hb, _, q5⟩ q3 q4 q5 q6 q7)
    · exact wpAny_bind (wpAny_pyNext_zip_item_held (A := A.in1) a.D hz hT Z.ti Z.it1 Z.it2 Z.hl1 Z.hl2 hx hy fun h' q1 q3 q4 q5 q6 q7 => go h' ⟨T, true, q1, hbT, oT, q7 T oT (Nat.ne_of_gt (Nat.lt_of_lt_of_le a.bz hbT)) (Nat.ne_of_gt (Nat.lt_of_lt_of_le a.b1 hbT)) (Nat.ne_of_gt (Nat.lt_of_lt_of_le a.b2 hbT)) hT⟩ q3 q4 q5 q6 fun b o b1 _ b3 b4 q => q7 b o b1 b3 b4 q)
theorem call_list_zip {z TI TO i1 i2 l1 l2 : Addr} {xs ys : Array Value} {u v : Value} {Q : Value → Shared → Prop} (hh : A.handled = none) (D : ZipApart z TI TO i1 i2 l1 l2) (hz : IsZip s.heap z TI TO .none) (hTI : IsPair s.heap TI (.ref i1) (.ref i2)) (hTO : IsPair s.heap TO u v)
    (h1 : s.heap.IsListIter i1 l1 0) (h2 : s.heap.IsListIter i2 l2 0) (hl1 : s.heap.IsList l1 xs) (hl2 : s.heap.IsList l2 ys) (hn : xs.size ≤ sizeLine)
    (k : ∀ (h' : Heap) (Ts : List Addr) (acc : Array Value) (c : Nat), h'.get? s.heap.objs.size = some { cls := .type "list", data := .seq acc c } → acc.toList = Ts.map Value.ref → Ts.length = min xs.size ys.size → (∀ (j : Nat) (T : Addr), Ts[j]? = some T → ∃ x y, xs[j]? = some x ∧ ys[j]? = some y ∧ IsPair h' T x y) → (∀ T ∈ Ts, s.heap.objs.size + 1 ≤ T) → Ts.Nodup →
      (∀ b o, b ≠ z → b ≠ TO → b ≠ i1 → b ≠ i2 → s.heap.get? b = some o → h'.get? b = some o) → Q (.ref s.heap.objs.size) { s with heap := h' }) :
    wpAny (model P w) A (call (.type "list") [.ref z]) Q E s := by
  have ne : ∀ {b : Addr} {o : Obj}, s.heap.get? b = some o → s.heap.objs.size ≠ b := fun e => Nat.ne_of_gt (Heap.lt_size e)
  have lt : ∀ {b : Addr} {o : Obj}, s.heap.get? b = some o → b < s.heap.objs.size + 1 := fun e => Nat.lt_succ_of_lt (Heap.lt_size e)
  obtain ⟨o1, ho1, r1⟩ := id h1
  obtain ⟨o2, ho2, r2⟩ := id h2
  obtain ⟨o3, ho3, r3⟩ := id hl1
  obtain ⟨o4, ho4, r4⟩ := id hl2
  have ap : ZAp s.heap.objs.size z TI TO i1 i2 l1 l2 (s.heap.objs.size + 1) := ⟨D, ne hz, ne hTI, ne hTO, ne ho1, ne ho2, ne ho3, ne ho4, Nat.lt_succ_self _, lt hz, lt hTO, lt ho1, lt ho2⟩
  refine callType_codes (Q₁ := fun obj s₁ => obj = .ref s.heap.objs.size ∧ s₁ = { s with heap := s.heap.push { cls := .type "list", data := .seq #[] } }) F.called_list (F.typeCall_list_1 _) F.entry_list_init
    (code_list_new _ ⟨rfl, rfl⟩) fun obj s₁ h₁ => ?_
  obtain ⟨rfl, rfl⟩ := h₁
  have hS : (s.heap.push { cls := .type "list", data := .seq #[] }).get? s.heap.objs.size = some { cls := .type "list", data := .seq #[] } := Heap.get?_push_size _ rfl
  refine ⟨⟨_, hS, rfl⟩, F.args_list_init_2 _ _, ?_⟩
  show wpAny _ A.in1.in1 (do let old ← Builtin.List.listItems (.ref s.heap.objs.size); Builtin.List.listUpdate (.ref s.heap.objs.size) (fun _ => #[]); letGo old.toList.reverse; Builtin.List.listExtendWith (.ref s.heap.objs.size) (.ref z) .none) _ _ _
  refine wpAny_bind ?_
  unfold Builtin.List.listItems
  refine wpAny_bind (wpAny_seqItems hS rfl (wpAny_pure ?_))
  show wpAny _ A.in1.in1 (updateSeq s.heap.objs.size (fun _ => #[]) >>= fun _ => letGo (#[] : Array Value).toList.reverse >>= fun _ => Builtin.List.listExtendWith (.ref s.heap.objs.size) (.ref z) .none) _ _ _
  refine wpAny_bind (wpAny_updateSeq hS rfl ?_)
  have hS2 := Heap.get?_update_self (Obj.mapSeq (fun _ => (#[] : Array Value))) hS rfl
  refine wpAny_bind (wpAny_letGo ?_)
  unfold Builtin.List.listExtendWith
  have up : ∀ (h : Heap) (f : Obj → Obj), (∀ b o, s.heap.get? b = some o → h.get? b = some o) → ∀ b o, s.heap.get? b = some o → (h.update s.heap.objs.size f).get? b = some o := fun h f q b o e =>
    (Heap.get?_update_other _ _ (Ne.symm (Nat.ne_of_lt (Heap.lt_size e)))).trans (q b o e)
  have k1 : ∀ b o, s.heap.get? b = some o → (s.heap.push { cls := .type "list", data := .seq #[] }).get? b = some o := fun b o e => Heap.get?_push_of_some _ e
  have k2 := up _ (Obj.mapSeq (fun _ => (#[] : Array Value))) k1
  have gty : ∀ {h : Heap}, (∀ b o, s.heap.get? b = some o → h.get? b = some o) → Shared.TypeIs { s with heap := h } (.ref z) "zip" := fun {h} q => ⟨_, q _ _ hz, rfl⟩
  refine wpAny_bind (wpAny_typeOf (gty k2) ?_)
  have e1 : Builtin.List.listSameRef (.ref s.heap.objs.size) (.ref z) = false := by simp [Builtin.List.listSameRef, ne hz]
  have e2 : (Value.type "zip" == Value.type "list") = false := by decide
  have e3 : (Value.type "zip" == Value.type "tuple") = false := by decide
  simp only [e1, e2, e3, Bool.or_false, Bool.false_eq_true, if_false]
  refine wpAny_bind (wpAny_pyIter_zip (s := { s with heap := _ }) (k2 _ _ hz) ?_)
  refine wpAny_bind (wpAny_holding ?_)
  unfold Builtin.List.listLengthHint
  refine wpAny_bind (wpAny_specialOf (gty k2) zip_nolen ?_)
  show wpAny _ A.in1.in1 (specialOf (Value.ref z) (Str.ofString "__length_hint__") >>= _) _ _ _
  refine wpAny_bind (wpAny_specialOf (gty k2) zip_nohint ?_)
  refine wpAny_pure ?_
  show wpAny _ A.in1.in1 (rule "list.extend.makes-room" >>= fun _ => Builtin.List.listTouch (.ref s.heap.objs.size) >>= fun _ =>
    again (.builtin "list.extend.loop" ⟨[.ref s.heap.objs.size, .ref z, .none], []⟩)) _ _ _
  refine wpAny_bind (wpAny_rule ?_)
  refine wpAny_bind ?_
  show wpAny _ A.in1.in1 (updateSeq s.heap.objs.size (·.push .none) >>= fun _ => updateSeq s.heap.objs.size (·.pop)) _ _ _
  refine wpAny_bind (wpAny_updateSeq hS2 rfl ?_)
  have hS3 := Heap.get?_update_self (Obj.mapSeq (·.push Value.none)) hS2 rfl
  refine wpAny_updateSeq (hz := by seq_fits) hS3 rfl ?_
  have hS4 := Heap.get?_update_self (Obj.mapSeq (·.pop)) hS3 rfl
  have k4 := up _ (Obj.mapSeq (·.pop)) (up _ (Obj.mapSeq (·.push Value.none)) k2)
  refine wpAny_pure ⟨plainId_quiet F.plain_extend_loop _, ?_⟩
  refine zip_drain (P := P) (w := w) (A := A.in1) hh ap hn (min xs.size ys.size) 0 _ [] (by omega) ?_ ⟨.inl ⟨rfl, k4 _ _ hz, u, v, k4 _ _ hTO⟩, k4 _ _ hTI, ⟨o1, k4 _ _ ho1, r1⟩, ⟨o2, k4 _ _ ho2, r2⟩, ⟨o3, k4 _ _ ho3, r3⟩, ⟨o4, k4 _ _ ho4, r4⟩, ⟨_, _, hS4, rfl⟩, rfl, fun j T hj => by simp at hj, fun T hT => (nomatch hT), List.nodup_nil⟩ ?_
  · show s.heap.objs.size + 1 ≤ (((( s.heap.push _).update _ _).update _ _).update _ _).objs.size
    rw [Heap.size_update, Heap.size_update, Heap.size_update, Heap.size_push]
    exact Nat.le_refl _
  · exact fun h' Ts acc c q1 q2 q3 q4 q5 q6 kp => ⟨rfl, k h' Ts acc c q1 q2 q3 q4 q5 q6 fun b o b1 b2 b3 b4 q => kp b o (Ne.symm (ne q)) b1 b2 b3 b4 (k4 b o q)⟩
end
/-! #### many new objects tracked -/
def updL (H : Hp) : List (Addr × HO) → Hp
  | [] => H
  | p :: r => upd (updL H r) p.1 p.2
theorem updL_ne {H : Hp} {b : Addr} : ∀ {L : List (Addr × HO)}, (∀ p ∈ L, p.1 ≠ b) → updL H L b = H b
  | [], _ => rfl
  | p :: r, h => by
    show upd (updL H r) p.1 p.2 b = _
    rw [upd_ne (fun e => h p (by simp) e.symm)]
    exact updL_ne fun q hq => h q (List.mem_cons_of_mem _ hq)
theorem updL_at {H : Hp} : ∀ {L : List (Addr × HO)} {p : Addr × HO}, (L.map (·.1)).Nodup → p ∈ L → updL H L p.1 = some p.2
  | q :: r, p, nd, hp => by
    rw [List.map_cons, List.nodup_cons] at nd
    show upd (updL H r) q.1 q.2 p.1 = _
    rcases List.mem_cons.mp hp with rfl | hp
    · exact upd_same
    · rw [upd_ne (fun e => nd.1 (by rw [← e]; exact List.mem_map.mpr ⟨p, hp, rfl⟩))]
      exact updL_at nd.2 hp
theorem updL_none {H : Hp} {L : List (Addr × HO)} (hn : ∀ p ∈ L, H p.1 = none) {b : Addr} {o : HO} (e : H b = some o) : updL H L b = some o := by
  rw [updL_ne fun p hp z => by rw [← z, hn p hp] at e; cases e]
  exact e
theorem updL_mem {H : Hp} {L : List (Addr × HO)} {b : Addr} {o : HO} (e : updL H L b = some o) : (∃ p ∈ L, p.1 = b ∧ p.2 = o) ∨ H b = some o := by
  induction L with
  | nil => exact .inr e
  | cons p r ih =>
    have e : upd (updL H r) p.1 p.2 b = some o := e
    by_cases h : b = p.1
    · subst h
      rw [upd_same] at e
      cases e
      exact .inl ⟨p, by simp, rfl, rfl⟩
    · rw [upd_ne h] at e
      rcases ih e with ⟨q, hq, h1⟩ | h1
      · exact .inl ⟨q, List.mem_cons_of_mem _ hq, h1⟩
      · exact .inr h1
theorem Un.laidL {fs ex : List Addr} {H : Hp} {h h' : Heap} {L : List (Addr × HO)} (k : ∀ b u, h.get? b = some u → h'.get? b = some u) (hp : ∀ p ∈ L, h.objs.size ≤ p.1) (hn : ∀ p ∈ L, H p.1 = none) : Un fs ex H (updL H L) h h' where
  keep := fun b u q _ _ _ => k b u q
  slot := fun b u q _ _ _ => ⟨u.slots, k b u q⟩
  free := fun b u q n _ => by rw [updL_ne fun p hm z => Nat.lt_irrefl _ (Nat.lt_of_lt_of_le (Heap.lt_size q) (by rw [← z]; exact hp p hm))]; exact n
  there := fun b u q _ => ⟨u, k b u q⟩
  tups := fun b xs q => updL_none hn q
  frzs := fun b u xs q => updL_none hn q
  tbls := fun b ps q => ⟨#[], by rw [updL_none hn q]; simp⟩
theorem HOk.laidL {P : Program} {w : World} {H : Hp} {h h' : Heap} {L : List (Addr × HO)} (x : HOk P w H h) (k : ∀ b u, h.get? b = some u → h'.get? b = some u) (hn : ∀ p ∈ L, H p.1 = none) (new : ∀ p ∈ L, ObjOk P w (updL H L) h' p.1 p.2) : HOk P w (updL H L) h' := fun b u e => by
  rcases updL_mem e with ⟨p, hp, rfl, rfl⟩ | e
  · exact new p hp
  · exact (x b u e).stay (fun c v _ q => k c v q) (fun c q => updL_none hn q) fun c xs q => updL_none hn q
theorem same_newL {H : Hp} {L : List (Addr × HO)} (hn : ∀ p ∈ L, H p.1 = none) : Same H (updL H L) := Same.of fun a u e => updL_none hn e
/-! #### list(zip(a, b)) -/
def pairsL (Ts : List Addr) (xs ys : List L2.V) : List (Addr × HO) := (Ts.zip (xs.zip ys)).map fun p => (p.1, HO.tup [p.2.1, p.2.2])
theorem pairs_mem {Ts : List Addr} {xs ys : List L2.V} {p : Addr × HO} (h : p ∈ pairsL Ts xs ys) : ∃ (j : Nat) (T : Addr) (x y : L2.V), Ts[j]? = some T ∧ xs[j]? = some x ∧ ys[j]? = some y ∧ p = (T, .tup [x, y]) := by
  unfold pairsL at h
  obtain ⟨q, hq, rfl⟩ := List.mem_map.mp h
  obtain ⟨j, hj⟩ := List.mem_iff_getElem?.mp hq
  rw [List.getElem?_zip_eq_some] at hj
  obtain ⟨h1, h2⟩ := hj
  have h2 : (xs.zip ys)[j]? = some (q.2.1, q.2.2) := h2
  rw [List.getElem?_zip_eq_some] at h2
  exact ⟨j, q.1, q.2.1, q.2.2, h1, h2.1, h2.2, rfl⟩
theorem pairs_fst {Ts : List Addr} {xs ys : List L2.V} (hl : Ts.length ≤ min xs.length ys.length) : (pairsL Ts xs ys).map (·.1) = Ts := by
  unfold pairsL
  rw [List.map_map]
  show (Ts.zip (xs.zip ys)).map (fun p => p.1) = Ts
  exact List.map_fst_zip (by rw [List.length_zip]; exact hl)
theorem vals_refs : ∀ Ts : List Addr, Vals (Ts.map V.ref) (Ts.map Value.ref)
  | [] => .nil
  | T :: Ts => .cons rfl (vals_refs Ts)
def tListZip (K : PySem.W.Frag) (ta : TA) : TE := fun σ H Q => ta σ H fun vs H1 => ∃ a b xs ys, vs = [.ref a, .ref b] ∧ SqL K H1 a xs ∧ SqL K H1 b ys ∧
  ∀ (S : Addr) (Ts : List Addr), H1 S = none → (∀ T ∈ Ts, H1 T = none) → S ∉ Ts → Ts.Nodup → Ts.length = min xs.length ys.length → Q (.ref S) (updL H1 ((S, .lst (Ts.map V.ref)) :: pairsL Ts xs ys))
theorem pe_listZip {X : Cx} {e e2 : Expr} {ta : TA} {p p2 pos pos2 : Pos} (hc : X.calm = true) (hgl : Gl X "list") (hml : X.mg "list" = none) (hgz : Gl X "zip") (hmz : X.mg "zip" = none) (ha : PA X [e, e2] ta)
    (hs : starEach [e, e2] X.env = (false, eval e X.env) :: starEach [e2] X.env := by rfl) (hpl : (backTo pos2 (starEach [e2] X.env)).any (·.1) = false := by rfl)
    (hb : starEach [.Call (.Name "zip" p2) [e, e2] [] pos2] X.env = (false, eval (.Call (.Name "zip" p2) [e, e2] [] pos2) X.env) :: starEach [] X.env := by rfl) :
    PE X (.Call (.Name "list" p) [.Call (.Name "zip" p2) [e, e2] [] pos2] [] pos) (tListZip X.K ta) := ⟨fun pins s σ H Q I h => by
  refine Call_ (ld_blt I hgl hml (by rfl) (callWith_type1 (args_cons (Call_ (ld_blt I hgz hmz boot_zip (callWith_type1 (thn (ha.run pos2 pins s σ H _ I h) fun us s1 ⟨vs, H1, I1, r1, q1⟩ => ?_) hs hpl))) hb) hb rfl))
  obtain ⟨a, b, xs, ys, ex, hqx, hqy, q⟩ := q1
  subst ex
  cases r1 with
  | cons r rr =>
    cases rr with
    | cons r' rr =>
      cases rr
      cases r
      cases r'
      obtain ⟨its, rv, p1, hz1⟩ := I1.list hqx
      obtain ⟨its2, rv2, pp2, hz2⟩ := I1.list hqy
      have l1 := rv.length
      have l2 := rv2.length
      refine call_zip_2 p1.isList pp2.isList fun h' hz hTI hTO h1 h2 hsz hk => args_nil ?_
      have ap := PySem.W.ktu_apart s1.heap.objs.size a b p1.lt pp2.lt
      have L1 : h'.IsList a its.toArray := by obtain ⟨o, e, r⟩ := p1.isList; exact ⟨o, hk _ _ e, r⟩
      have L2 : h'.IsList b its2.toArray := by obtain ⟨o, e, r⟩ := pp2.isList; exact ⟨o, hk _ _ e, r⟩
      refine call_list_zip (s := { s1 with heap := h' }) (I1.ok.hd hc) ap hz hTI hTO h1 h2 L1 L2 (by rw [List.size_toArray]; omega) fun h'' Ts acc c q1 q2 q3 q4 q5 q6 kp => ?_
      have q5 : ∀ T ∈ Ts, h'.objs.size + 1 ≤ T := q5
      have kk : ∀ c o, s1.heap.get? c = some o → h''.get? c = some o := fun c o e => by
        have := Heap.lt_size e
        exact kp c o (Nat.ne_of_lt (Nat.lt_add_right 4 this)) (Nat.ne_of_lt (Nat.lt_add_right 3 this)) (Nat.ne_of_lt this) (Nat.ne_of_lt (Nat.lt_add_right 1 this)) (hk c o e)
      have q3 : Ts.length = min xs.length ys.length := by rw [q3, List.size_toArray, List.size_toArray]; omega
      have hge : s1.heap.objs.size ≤ h'.objs.size := by omega
      have hgeT : ∀ T ∈ Ts, s1.heap.objs.size ≤ T := fun T hT => by have := q5 T hT; omega
      have hST : h'.objs.size ∉ Ts := fun z => by have := q5 _ z; omega
      have hl : (pairsL Ts xs ys).map (·.1) = Ts := pairs_fst (by omega)
      have hmem : ∀ y ∈ ((h'.objs.size, HO.lst (Ts.map V.ref)) :: pairsL Ts xs ys), s1.heap.objs.size ≤ y.1 := fun y hy => by
        rcases List.mem_cons.mp hy with rfl | hy
        · exact hge
        · obtain ⟨j, T, x, z, e1, _, _, rfl⟩ := pairs_mem hy
          exact hgeT T (List.mem_of_getElem? e1)
      have hnone : ∀ y ∈ ((h'.objs.size, HO.lst (Ts.map V.ref)) :: pairsL Ts xs ys), H1 y.1 = none := fun y hy => I1.hok.fresh (hmem y hy)
      have hnd : (((h'.objs.size, HO.lst (Ts.map V.ref)) :: pairsL Ts xs ys).map (·.1)).Nodup := by
        rw [List.map_cons, hl, List.nodup_cons]
        exact ⟨hST, q6⟩
      refine ⟨.ref h'.objs.size, _, I1.un (t' := s1.toks) (Un.laidL kk hmem hnone) (HOk.laidL I1.hok kk hnone fun y hy => ?_), rfl, q _ Ts (I1.hok.fresh hge) (fun T hT => I1.hok.fresh (hgeT T hT)) hST q6 q3⟩
      rcases List.mem_cons.mp hy with rfl | hy
      · refine ⟨by rw [List.length_map]; omega, acc.toList, c, ?_, by rw [Array.toArray_toList]; exact q1⟩
        rw [q2]
        exact vals_refs Ts
      · obtain ⟨j, T, x, z, e1, e2, e3, rfl⟩ := pairs_mem hy
        obtain ⟨u1, u2, f1, f2, f3⟩ := q4 j T e1
        obtain ⟨v1, hv1, rv1⟩ := rv.get e2
        obtain ⟨v2, hv2, rv2'⟩ := rv2.get e3
        have g1 : v1 = u1 := by
          have : its.toArray[j]? = some v1 := by simpa using hv1
          rw [this] at f1; exact Option.some.inj f1
        have g2 : v2 = u2 := by
          have : its2.toArray[j]? = some v2 := by simpa using hv2
          rw [this] at f2; exact Option.some.inj f2
        subst g1 g2
        exact ⟨by show 2 ≤ sizeLine; decide, [v1, v2], .cons rv1 (.cons rv2' .nil), ⟨_, f3, rfl, _, rfl⟩⟩⟩
/-- list(zip(a, b)) of lists of things that may be shared -/
def eListZip (f g : EE) : EE := fun env => (f env).bind fun d => (g env).bind fun e => match d, e with
  | .lst _ xs, .lst _ ys => if D.shs xs && D.shs ys then some (.lst true (List.zipWith (fun x y => .tup [x, y]) xs ys)) else none
  | _, _ => none
section
variable {X : Cx} {cl : Cl} {a b : Expr} {f g : EE} {p p2 pos pos2 : Pos}
theorem owns_of {K : PySem.W.Frag} {W : List Addr} {H : Hp} : ∀ (vs : List L2.V) (ds : List Tg.D), vs.length = ds.length → (∀ (i : Nat) (v : L2.V) (d : Tg.D), vs[i]? = some v → ds[i]? = some d → Own K cl W H v d []) → Owns K cl W H vs ds []
  | [], [], _, _ => .nil
  | [], _ :: _, h, _ => nomatch h
  | _ :: _, [], h, _ => nomatch h
  | v :: vs, d :: ds, hl, h => Owns.cons (F := []) (G := []) (h 0 v d rfl rfl) (owns_of vs ds (Nat.succ.inj hl) fun i v' d' a b => h (i + 1) v' d' a b)
theorem owns_pairs {K : PySem.W.Frag} {W : List Addr} {H H' : Hp} (hs : Same H H') {Ts : List Addr} {vs us : List L2.V} {xs ys : List Tg.D} (hl : Ts.length = min vs.length us.length) (c1 : Owns K cl W H vs xs []) (c2 : Owns K cl W H us ys [])
    (hT : ∀ (j : Nat) (T : Addr) (x y : L2.V), Ts[j]? = some T → vs[j]? = some x → us[j]? = some y → H' T = some (.tup [x, y])) : Owns K cl W H' (Ts.map V.ref) (List.zipWith (fun x y => .tup [x, y]) xs ys) [] := by
  refine owns_of _ _ (by rw [List.length_map, List.length_zipWith, hl, c1.length, c2.length]) fun i v d hv hd => ?_
  rw [List.getElem?_zipWith] at hd
  rw [List.getElem?_map] at hv
  cases hi : xs[i]? with
  | none => rw [hi] at hd; simp at hd
  | some di =>
    cases hj : ys[i]? with
    | none => rw [hi, hj] at hd; simp at hd
    | some dj =>
      rw [hi, hj] at hd
      have hd' : some (Tg.D.tup [di, dj]) = some d := hd
      cases hd'
      obtain ⟨wa, Ga, g1, g2, g3⟩ := c1.get hi
      obtain ⟨wb, Gb, k1, k2, k3⟩ := c2.get hj
      have ea : Ga = [] := List.eq_nil_iff_forall_not_mem.mpr fun a ha => nomatch g3 a ha
      have eb : Gb = [] := List.eq_nil_iff_forall_not_mem.mpr fun a ha => nomatch k3 a ha
      subst ea eb
      cases hti : Ts[i]? with
      | none => rw [hti] at hv; cases hv
      | some T =>
        rw [hti] at hv
        cases hv
        exact .tup (hT i T wa wb hti g1 k1) (Owns.cons (F := []) (G := []) (g2.mono hs) (Owns.cons (F := []) (G := []) (k2.mono hs) .nil))
theorem se_listZip (ha : Se X cl a f) (hb : Se X cl b g) (hc : X.calm = true) (hgl : Gl X "list") (hml : X.mg "list" = none) (hgz : Gl X "zip") (hmz : X.mg "zip" = none)
    (h1 : starEach [a, b] X.env = (false, eval a X.env) :: starEach [b] X.env := by rfl) (h2 : starEach [b] X.env = (false, eval b X.env) :: starEach [] X.env := by rfl)
    (hpl : (backTo pos2 (starEach [b] X.env)).any (·.1) = false := by rfl)
    (h3 : starEach [.Call (.Name "zip" p2) [a, b] [] pos2] X.env = (false, eval (.Call (.Name "zip" p2) [a, b] [] pos2) X.env) :: starEach [] X.env := by rfl) :
    Se X cl (.Call (.Name "list" p) [.Call (.Name "zip" p2) [a, b] [] pos2] [] pos) (eListZip f g) := ⟨fun W env d q σ H E V Q k => by
  unfold eListZip at q
  obtain ⟨dx, e1, q1⟩ := bind1 q
  obtain ⟨dy, e2, q2⟩ := bind1 q1
  split at q2
  rotate_left
  · cases q2
  rename_i o1 xs o2 ys
  split at q2
  rotate_left
  · cases q2
  rename_i hsh
  rw [Bool.and_eq_true] at hsh
  cases q2
  refine wE.of (pe_listZip hc hgl hml hgz hmz (pa_cons pe_w (pa_cons pe_w pa_nil h2) h1) h1 hpl h3) ?_
  refine ha.run W env _ e1 σ H E V _ fun v H1 F1 s1 o1 n1 f1 => ?_
  have V1 : VD (F1 ++ W) H1 := fun a ha => (List.mem_append.mp ha).elim (o1.tracked a) (V.mono s1 a)
  refine hb.run (F1 ++ W) env _ e2 σ H1 ((E.grow fun a ha => (List.mem_append.mp ha).elim (fun z => .inr (f1 a z)) .inl).mono s1) V1 _ fun u H2 F2 s2 o2 n2 f2 => ?_
  obtain ⟨p1, vs, G1, rfl, hp1, hv1, _⟩ := own_lst o1
  obtain ⟨p2, us, G2, rfl, hp2, hv2, _⟩ := own_lst o2
  have c1 : Owns X.K cl W H2 vs xs [] := ((hv1.shs hsh.1).weak fun a ha => List.mem_append_right _ ha).mono s2
  have c2 : Owns X.K cl W H2 us ys [] := (hv2.shs hsh.2).weak fun a ha => List.mem_append_right _ (List.mem_append_right _ ha)
  refine ⟨p1, p2, vs, us, rfl, SqL.of (s2 _ _ hp1), SqL.of hp2, fun S Ts hS hTs hST nd hl => ?_⟩
  have hl2 : (pairsL Ts vs us).map (·.1) = Ts := pairs_fst (by omega)
  have hnone : ∀ y ∈ ((S, HO.lst (Ts.map L2.V.ref)) :: pairsL Ts vs us), H2 y.1 = none := fun y hy => by
    rcases List.mem_cons.mp hy with rfl | hy
    · exact hS
    · obtain ⟨j, T, x, z, g1, _, _, rfl⟩ := pairs_mem hy
      exact hTs T (List.mem_of_getElem? g1)
  have hnd : (((S, HO.lst (Ts.map L2.V.ref)) :: pairsL Ts vs us).map (·.1)).Nodup := by
    rw [List.map_cons, hl2, List.nodup_cons]
    exact ⟨hST, nd⟩
  have sm := same_newL hnone
  have gr : ∀ a ∈ [S] ++ W, a ∈ W ∨ H2 a = none := fun a ha => (List.mem_append.mp ha).elim (fun z => .inr (by rw [List.mem_singleton.mp z]; exact hS)) .inl
  refine k _ _ [S] ((s1.trans s2).trans sm) (Own.lstO (F := []) (updL_at (p := (S, HO.lst (Ts.map L2.V.ref))) hnd (List.mem_cons_self ..)) (owns_pairs (W := [S] ++ W) sm hl (c1.grow gr) (c2.grow gr) fun j T x y g1 g2 g3 => updL_at (p := (T, .tup [x, y])) hnd (List.mem_cons_of_mem _ ?_))) (by simp) (fun b hb => by rw [List.mem_singleton.mp hb]; exact Same.back (s1.trans s2) hS)
  · unfold pairsL
    refine List.mem_map.mpr ⟨(T, (x, y)), List.mem_iff_getElem?.mpr ⟨j, ?_⟩, rfl⟩
    rw [List.getElem?_zip_eq_some]
    exact ⟨g1, List.getElem?_zip_eq_some.mpr ⟨g2, g3⟩⟩⟩
/-- x[::-1] of a list of things that may be shared -/
def eRevL1 (f : EE) : EE := fun env => (f env).bind fun d => match d with
  | .lst _ xs => if D.shs xs then some (.lst true xs.reverse) else none
  | _ => none
theorem se_revL1 {kk : Nat} {q1 q2 q3 : Pos} (ha : Pk X cl a f) : Se X cl (.Subscript a (.Slice none none (some (.UnaryOp .USub (.Constant (.int 1) kk q1) q2)) q3) pos) (eRevL1 f) := ⟨fun W env d q σ H E V Q k => by
  unfold eRevL1 at q
  obtain ⟨dx, e1, q1⟩ := bind1 q
  split at q1
  rotate_left
  · cases q1
  rename_i o1 xs
  split at q1
  rotate_left
  · cases q1
  rename_i hsh
  cases q1
  refine wE.of (pe_revL pe_w) ?_
  refine ha.run W env _ e1 σ H E V _ fun v H1 F s1 o1 => ?_
  obtain ⟨p, vs, G, rfl, hp, hv, _⟩ := own_lst o1
  refine ⟨p, vs, rfl, SqL.of hp, fun l hl => ?_⟩
  exact k _ _ [l] (s1.trans (same_new hl)) (Own.lstO (F := []) upd_same ((hv.shs hsh).shsR.growS (same_new hl) fun a ha => (List.mem_cons.mp ha).elim (fun z => .inr (by rw [z]; exact hl)) .inl)) (by simp) (fun b hb => by rw [List.mem_singleton.mp hb]; exact Same.back s1 hl)⟩
end
end Tg

namespace Lw
open PySem PySem.Spec L2 Tg RT RZ
abbrev Env := Tg.Env
abbrev Call := Nat → List Tg.D → Option (Tg.D × List Tg.D)
abbrev j_value : Nat := 0
abbrev j_law_cell : Nat := 1
abbrev j_law_drawn : Nat := 2
abbrev j_law_bits : Nat := 3
abbrev j_law_by_bits : Nat := 4
abbrev j_law_right : Nat := 5
abbrev j_law : Nat := 6
/-- value(sign, one, other) -/
def b_value (call mk : Call) : SS := sSeq (sIf (eOp gEq (eVar 0) (eC (.str [43]))) (sSeq (sRet (eOp gMod (eOp gAdd (eVar 1) (eVar 2)) (eC (.int 281474976710656))))
  (sNil))
  (sNil))
  (sSeq (sIf (eOp gEq (eVar 0) (eC (.str [45]))) (sSeq (sRet (eOp gMod (eOp gSub (eVar 1) (eVar 2)) (eC (.int 281474976710656))))
  (sNil))
  (sNil))
  (sSeq (sIf (eOp gEq (eVar 0) (eC (.str [42]))) (sSeq (sRet (eOp gMod (eOp gMul (eVar 1) (eVar 2)) (eC (.int 281474976710656))))
  (sNil))
  (sNil))
  (sSeq (sIf (eOp gEq (eVar 0) (eC (.str [47]))) (sSeq (sRet (eIf (eOp gNe (eVar 2) (eC (.int 0))) (eOp gDiv (eVar 1) (eVar 2)) (eC (.int 0))))
  (sNil))
  (sNil))
  (sSeq (sIf (eOp gEq (eVar 0) (eC (.str [60]))) (sSeq (sRet (eUn gInt (eOp gLt (eVar 1) (eVar 2))))
  (sNil))
  (sNil))
  (sSeq (sIf (eOp gEq (eVar 0) (eC (.str [61]))) (sSeq (sRet (eUn gInt (eOp gEq (eVar 1) (eVar 2))))
  (sNil))
  (sNil))
  (sSeq (sIf (eOp gEq (eVar 0) (eC (.str [38]))) (sSeq (sRet (eOp gAndI (eVar 1) (eVar 2)))
  (sNil))
  (sNil))
  (sSeq (sIf (eOp gEq (eVar 0) (eC (.str [124]))) (sSeq (sRet (eOp gOrB (eVar 1) (eVar 2)))
  (sNil))
  (sNil))
  (sSeq (sRet (eOp gXorB (eVar 1) (eVar 2)))
  (sNil)))))))))
theorem u_value (call mk : Call) (env : Env) : b_value call mk env = (sSeq (sIf (eOp gEq (eVar 0) (eC (.str [43]))) (sSeq (sRet (eOp gMod (eOp gAdd (eVar 1) (eVar 2)) (eC (.int 281474976710656))))
  (sNil))
  (sNil))
  (sSeq (sIf (eOp gEq (eVar 0) (eC (.str [45]))) (sSeq (sRet (eOp gMod (eOp gSub (eVar 1) (eVar 2)) (eC (.int 281474976710656))))
  (sNil))
  (sNil))
  (sSeq (sIf (eOp gEq (eVar 0) (eC (.str [42]))) (sSeq (sRet (eOp gMod (eOp gMul (eVar 1) (eVar 2)) (eC (.int 281474976710656))))
  (sNil))
  (sNil))
  (sSeq (sIf (eOp gEq (eVar 0) (eC (.str [47]))) (sSeq (sRet (eIf (eOp gNe (eVar 2) (eC (.int 0))) (eOp gDiv (eVar 1) (eVar 2)) (eC (.int 0))))
  (sNil))
  (sNil))
  (sSeq (sIf (eOp gEq (eVar 0) (eC (.str [60]))) (sSeq (sRet (eUn gInt (eOp gLt (eVar 1) (eVar 2))))
  (sNil))
  (sNil))
  (sSeq (sIf (eOp gEq (eVar 0) (eC (.str [61]))) (sSeq (sRet (eUn gInt (eOp gEq (eVar 1) (eVar 2))))
  (sNil))
  (sNil))
  (sSeq (sIf (eOp gEq (eVar 0) (eC (.str [38]))) (sSeq (sRet (eOp gAndI (eVar 1) (eVar 2)))
  (sNil))
  (sNil))
  (sSeq (sIf (eOp gEq (eVar 0) (eC (.str [124]))) (sSeq (sRet (eOp gOrB (eVar 1) (eVar 2)))
  (sNil))
  (sNil))
  (sSeq (sRet (eOp gXorB (eVar 1) (eVar 2)))
  (sNil)))))))))) env := (rfl)
/-- _law_cell(_law_script, _law_k) -/
def b_law_cell (call mk : Call) : SS := sSeq (sIf (eAnd (eOp gGt (eUn gLen (eVar 0)) (eC (.int 0))) (eOp gEq (eOp gMod (eOp gIx (eVar 0) (eC (.int 0))) (eC (.int 2))) (eC (.int 1)))) (sSeq (sRet (eOp gAndI (eOp gShr (eOp gIx (eVar 0) (eOp gMod (eOp gDiv (eVar 1) (eC (.int 2))) (eUn gLen (eVar 0)))) (eOp gAdd (eC (.int 1)) (eOp gMul (eC (.int 64)) (eOp gMod (eVar 1) (eC (.int 2)))))) (eC (.int 18446744073709551615))))
  (sNil))
  (sNil))
  (sSeq (sAsg (eOp gAdd (eOp gMul (eC (.int 7919)) (eVar 1)) (eC (.int 5))) (tgN 2))
  (sSeq (sIf (eOp gGt (eUn gLen (eVar 0)) (eC (.int 0))) (sSeq (sAsg (eOp gAdd (eOp gMul (eOp gIx (eVar 0) (eOp gMod (eVar 1) (eUn gLen (eVar 0)))) (eC (.int 48271))) (eOp gMul (eC (.int 7919)) (eVar 1))) (tgN 2))
  (sNil))
  (sNil))
  (sSeq (sAsg (eOp gMod (eVar 2) (eC (.int 2147483647))) (tgN 2))
  (sSeq (sAsg (eOp gAdd (eOp gMul (eOp gMod (eOp gMul (eVar 2) (eVar 2)) (eC (.int 2147483629))) (eC (.int 69621))) (eC (.int 16807))) (tgN 2))
  (sSeq (sRet (eOp gMod (eOp gMul (eVar 2) (eVar 2)) (eC (.int 2147483587))))
  (sNil))))))
theorem u_law_cell (call mk : Call) (env : Env) : b_law_cell call mk env = (sSeq (sIf (eAnd (eOp gGt (eUn gLen (eVar 0)) (eC (.int 0))) (eOp gEq (eOp gMod (eOp gIx (eVar 0) (eC (.int 0))) (eC (.int 2))) (eC (.int 1)))) (sSeq (sRet (eOp gAndI (eOp gShr (eOp gIx (eVar 0) (eOp gMod (eOp gDiv (eVar 1) (eC (.int 2))) (eUn gLen (eVar 0)))) (eOp gAdd (eC (.int 1)) (eOp gMul (eC (.int 64)) (eOp gMod (eVar 1) (eC (.int 2)))))) (eC (.int 18446744073709551615))))
  (sNil))
  (sNil))
  (sSeq (sAsg (eOp gAdd (eOp gMul (eC (.int 7919)) (eVar 1)) (eC (.int 5))) (tgN 2))
  (sSeq (sIf (eOp gGt (eUn gLen (eVar 0)) (eC (.int 0))) (sSeq (sAsg (eOp gAdd (eOp gMul (eOp gIx (eVar 0) (eOp gMod (eVar 1) (eUn gLen (eVar 0)))) (eC (.int 48271))) (eOp gMul (eC (.int 7919)) (eVar 1))) (tgN 2))
  (sNil))
  (sNil))
  (sSeq (sAsg (eOp gMod (eVar 2) (eC (.int 2147483647))) (tgN 2))
  (sSeq (sAsg (eOp gAdd (eOp gMul (eOp gMod (eOp gMul (eVar 2) (eVar 2)) (eC (.int 2147483629))) (eC (.int 69621))) (eC (.int 16807))) (tgN 2))
  (sSeq (sRet (eOp gMod (eOp gMul (eVar 2) (eVar 2)) (eC (.int 2147483587))))
  (sNil))))))) env := (rfl)
/-- _law_drawn(_law_cell_here, _law_other) -/
def b_law_drawn (call mk : Call) : SS := sSeq (sAsg (eOp gDiv (eVar 0) (eC (.int 6))) (tgN 2))
  (sSeq (sIf (eOp gEq (eOp gMod (eVar 0) (eC (.int 6))) (eC (.int 0))) (sSeq (sRet (eOp gMod (eVar 2) (eC (.int 5))))
  (sNil))
  (sNil))
  (sSeq (sIf (eOp gEq (eOp gMod (eVar 0) (eC (.int 6))) (eC (.int 1))) (sSeq (sRet (eOp gSub (eOp gShl (eC (.int 1)) (eOp gMod (eVar 2) (eC (.int 49)))) (eC (.int 1))))
  (sNil))
  (sNil))
  (sSeq (sIf (eOp gEq (eOp gMod (eVar 0) (eC (.int 6))) (eC (.int 2))) (sSeq (sRet (eOp gShl (eC (.int 1)) (eOp gMod (eVar 2) (eC (.int 48)))))
  (sNil))
  (sNil))
  (sSeq (sIf (eOp gEq (eOp gMod (eVar 0) (eC (.int 6))) (eC (.int 3))) (sSeq (sRetM (mMv 1 (qNil)))
  (sNil))
  (sNil))
  (sSeq (sIf (eOp gEq (eOp gMod (eVar 0) (eC (.int 6))) (eC (.int 4))) (sSeq (sRet (eOp gSub (eC (.int 281474976710655)) (eOp gMod (eVar 2) (eC (.int 4)))))
  (sNil))
  (sNil))
  (sSeq (sRet (eOp gMod (eOp gIx (eLst (eCons (eOp gDiv (eVar 2) (eC (.int 2))) (eCons (eOp gMul (eOp gMul (eVar 2) (eVar 2)) (eC (.int 1000003))) (eNil)))) (eOp gMod (eVar 2) (eC (.int 2)))) (eOp gShl (eC (.int 1)) (eC (.int 48)))))
  (sNil)))))))
theorem u_law_drawn (call mk : Call) (env : Env) : b_law_drawn call mk env = (sSeq (sAsg (eOp gDiv (eVar 0) (eC (.int 6))) (tgN 2))
  (sSeq (sIf (eOp gEq (eOp gMod (eVar 0) (eC (.int 6))) (eC (.int 0))) (sSeq (sRet (eOp gMod (eVar 2) (eC (.int 5))))
  (sNil))
  (sNil))
  (sSeq (sIf (eOp gEq (eOp gMod (eVar 0) (eC (.int 6))) (eC (.int 1))) (sSeq (sRet (eOp gSub (eOp gShl (eC (.int 1)) (eOp gMod (eVar 2) (eC (.int 49)))) (eC (.int 1))))
  (sNil))
  (sNil))
  (sSeq (sIf (eOp gEq (eOp gMod (eVar 0) (eC (.int 6))) (eC (.int 2))) (sSeq (sRet (eOp gShl (eC (.int 1)) (eOp gMod (eVar 2) (eC (.int 48)))))
  (sNil))
  (sNil))
  (sSeq (sIf (eOp gEq (eOp gMod (eVar 0) (eC (.int 6))) (eC (.int 3))) (sSeq (sRetM (mMv 1 (qNil)))
  (sNil))
  (sNil))
  (sSeq (sIf (eOp gEq (eOp gMod (eVar 0) (eC (.int 6))) (eC (.int 4))) (sSeq (sRet (eOp gSub (eC (.int 281474976710655)) (eOp gMod (eVar 2) (eC (.int 4)))))
  (sNil))
  (sNil))
  (sSeq (sRet (eOp gMod (eOp gIx (eLst (eCons (eOp gDiv (eVar 2) (eC (.int 2))) (eCons (eOp gMul (eOp gMul (eVar 2) (eVar 2)) (eC (.int 1000003))) (eNil)))) (eOp gMod (eVar 2) (eC (.int 2)))) (eOp gShl (eC (.int 1)) (eC (.int 48)))))
  (sNil)))))))) env := (rfl)
/-- _law_bits(_law_number) -/
def b_law_bits_l0 (call mk : Call) : SS := sClrB [2] (sSeq (sApp 1 (qNil) (eOp gMod (eVar 0) (eC (.int 2))))
  (sSeq (sAsg (eOp gDiv (eVar 0) (eC (.int 2))) (tgN 0))
  (sNil)))
theorem u_law_bits_l0 (call mk : Call) (env : Env) : b_law_bits_l0 call mk env = (sClrB [2] (sSeq (sApp 1 (qNil) (eOp gMod (eVar 0) (eC (.int 2))))
  (sSeq (sAsg (eOp gDiv (eVar 0) (eC (.int 2))) (tgN 0))
  (sNil)))) env := (rfl)
def b_law_bits (call mk : Call) : SS := sSeq (sAsg (eLst (eNil)) (tgN 1))
  (sSeq (sPre [2] (sForI (iRng (eC (.int 48))) (tgN 2)
  (b_law_bits_l0 call mk)))
  (sSeq (sRetM (mMv 1 (qNil)))
  (sNil)))
theorem u_law_bits (call mk : Call) (env : Env) : b_law_bits call mk env = (sSeq (sAsg (eLst (eNil)) (tgN 1))
  (sSeq (sPre [2] (sForI (iRng (eC (.int 48))) (tgN 2)
  (b_law_bits_l0 call mk)))
  (sSeq (sRetM (mMv 1 (qNil)))
  (sNil)))) env := (rfl)
/-- _law_by_bits(_law_sign, _law_one, _law_other) -/
def b_law_by_bits_l0 (call mk : Call) : SS := sClrB [4, 5, 6] (sSeq (sAsg (eOp gMul (eVar 4) (eVar 5)) (tgN 6))
  (sSeq (sIf (eOp gEq (eVar 0) (eC (.str [124]))) (sSeq (sAsg (eOp gSub (eOp gAdd (eVar 4) (eVar 5)) (eOp gMul (eVar 4) (eVar 5))) (tgN 6))
  (sNil))
  (sNil))
  (sSeq (sIf (eOp gEq (eVar 0) (eC (.str [94]))) (sSeq (sAsg (eOp gMod (eOp gAdd (eVar 4) (eVar 5)) (eC (.int 2))) (tgN 6))
  (sNil))
  (sNil))
  (sSeq (sAsg (eOp gAdd (eOp gMul (eC (.int 2)) (eVar 3)) (eVar 6)) (tgN 3))
  (sNil)))))
theorem u_law_by_bits_l0 (call mk : Call) (env : Env) : b_law_by_bits_l0 call mk env = (sClrB [4, 5, 6] (sSeq (sAsg (eOp gMul (eVar 4) (eVar 5)) (tgN 6))
  (sSeq (sIf (eOp gEq (eVar 0) (eC (.str [124]))) (sSeq (sAsg (eOp gSub (eOp gAdd (eVar 4) (eVar 5)) (eOp gMul (eVar 4) (eVar 5))) (tgN 6))
  (sNil))
  (sNil))
  (sSeq (sIf (eOp gEq (eVar 0) (eC (.str [94]))) (sSeq (sAsg (eOp gMod (eOp gAdd (eVar 4) (eVar 5)) (eC (.int 2))) (tgN 6))
  (sNil))
  (sNil))
  (sSeq (sAsg (eOp gAdd (eOp gMul (eC (.int 2)) (eVar 3)) (eVar 6)) (tgN 3))
  (sNil)))))) env := (rfl)
def b_law_by_bits (call mk : Call) : SS := sSeq (sAsg (eC (.int 0)) (tgN 3))
  (sSeq (sPre [4, 5, 6] (sForI (iSeq (eRevL1 (eListZip (eCallP (call j_law_bits) [] (eCons (eSh (eVar 1)) (eNil))) (eCallP (call j_law_bits) [] (eCons (eSh (eVar 2)) (eNil)))))) (tgX [tgN 4, tgN 5])
  (b_law_by_bits_l0 call mk)))
  (sSeq (sRetM (mMv 3 (qNil)))
  (sNil)))
theorem u_law_by_bits (call mk : Call) (env : Env) : b_law_by_bits call mk env = (sSeq (sAsg (eC (.int 0)) (tgN 3))
  (sSeq (sPre [4, 5, 6] (sForI (iSeq (eRevL1 (eListZip (eCallP (call j_law_bits) [] (eCons (eSh (eVar 1)) (eNil))) (eCallP (call j_law_bits) [] (eCons (eSh (eVar 2)) (eNil)))))) (tgX [tgN 4, tgN 5])
  (b_law_by_bits_l0 call mk)))
  (sSeq (sRetM (mMv 3 (qNil)))
  (sNil)))) env := (rfl)
/-- _law_right(_law_sign, _law_one, _law_other, _law_found) -/
def b_law_right (call mk : Call) : SS := sSeq (sIf (eOr (eUn gNot (eInst .int (eVar 3))) (eOr (eInst .bool (eVar 3)) (eUn gNot (eChain gLe gLt (eC (.int 0)) (eVar 3) (eC (.int 281474976710656)))))) (sSeq (sRet (eC (.bl false)))
  (sNil))
  (sNil))
  (sSeq (sIf (eOp gEq (eVar 0) (eC (.str [43]))) (sSeq (sRet (eOp gIn (eVar 3) (eLst (eCons (eOp gAdd (eVar 1) (eVar 2)) (eCons (eOp gSub (eOp gAdd (eVar 1) (eVar 2)) (eC (.int 281474976710656))) (eNil))))))
  (sNil))
  (sNil))
  (sSeq (sIf (eOp gEq (eVar 0) (eC (.str [45]))) (sSeq (sRet (eOp gIn (eVar 3) (eLst (eCons (eOp gSub (eVar 1) (eVar 2)) (eCons (eOp gAdd (eOp gSub (eVar 1) (eVar 2)) (eC (.int 281474976710656))) (eNil))))))
  (sNil))
  (sNil))
  (sSeq (sIf (eOp gEq (eVar 0) (eC (.str [42]))) (sSeq (sRet (eOp gEq (eOp gMod (eOp gSub (eOp gMul (eVar 1) (eVar 2)) (eVar 3)) (eC (.int 281474976710656))) (eC (.int 0))))
  (sNil))
  (sNil))
  (sSeq (sIf (eAnd (eOp gEq (eVar 0) (eC (.str [47]))) (eOp gGt (eVar 2) (eC (.int 0)))) (sSeq (sRet (eChain gLe gLt (eOp gMul (eVar 3) (eVar 2)) (eVar 1) (eOp gMul (eOp gAdd (eVar 3) (eC (.int 1))) (eVar 2))))
  (sNil))
  (sNil))
  (sSeq (sIf (eOp gEq (eVar 0) (eC (.str [47]))) (sSeq (sRet (eOp gEq (eVar 3) (eC (.int 0))))
  (sNil))
  (sNil))
  (sSeq (sIf (eOp gEq (eVar 0) (eC (.str [60]))) (sSeq (sRet (eOp gEq (eVar 3) (eUn gInt (eOp gLt (eVar 1) (eVar 2)))))
  (sNil))
  (sNil))
  (sSeq (sIf (eOp gEq (eVar 0) (eC (.str [61]))) (sSeq (sRet (eOp gEq (eVar 3) (eUn gInt (eOp gEq (eVar 1) (eVar 2)))))
  (sNil))
  (sNil))
  (sSeq (sRet (eOp gEq (eVar 3) (eCallP (call j_law_by_bits) [] (eCons (eSh (eVar 0)) (eCons (eSh (eVar 1)) (eCons (eSh (eVar 2)) (eNil)))))))
  (sNil)))))))))
theorem u_law_right (call mk : Call) (env : Env) : b_law_right call mk env = (sSeq (sIf (eOr (eUn gNot (eInst .int (eVar 3))) (eOr (eInst .bool (eVar 3)) (eUn gNot (eChain gLe gLt (eC (.int 0)) (eVar 3) (eC (.int 281474976710656)))))) (sSeq (sRet (eC (.bl false)))
  (sNil))
  (sNil))
  (sSeq (sIf (eOp gEq (eVar 0) (eC (.str [43]))) (sSeq (sRet (eOp gIn (eVar 3) (eLst (eCons (eOp gAdd (eVar 1) (eVar 2)) (eCons (eOp gSub (eOp gAdd (eVar 1) (eVar 2)) (eC (.int 281474976710656))) (eNil))))))
  (sNil))
  (sNil))
  (sSeq (sIf (eOp gEq (eVar 0) (eC (.str [45]))) (sSeq (sRet (eOp gIn (eVar 3) (eLst (eCons (eOp gSub (eVar 1) (eVar 2)) (eCons (eOp gAdd (eOp gSub (eVar 1) (eVar 2)) (eC (.int 281474976710656))) (eNil))))))
  (sNil))
  (sNil))
  (sSeq (sIf (eOp gEq (eVar 0) (eC (.str [42]))) (sSeq (sRet (eOp gEq (eOp gMod (eOp gSub (eOp gMul (eVar 1) (eVar 2)) (eVar 3)) (eC (.int 281474976710656))) (eC (.int 0))))
  (sNil))
  (sNil))
  (sSeq (sIf (eAnd (eOp gEq (eVar 0) (eC (.str [47]))) (eOp gGt (eVar 2) (eC (.int 0)))) (sSeq (sRet (eChain gLe gLt (eOp gMul (eVar 3) (eVar 2)) (eVar 1) (eOp gMul (eOp gAdd (eVar 3) (eC (.int 1))) (eVar 2))))
  (sNil))
  (sNil))
  (sSeq (sIf (eOp gEq (eVar 0) (eC (.str [47]))) (sSeq (sRet (eOp gEq (eVar 3) (eC (.int 0))))
  (sNil))
  (sNil))
  (sSeq (sIf (eOp gEq (eVar 0) (eC (.str [60]))) (sSeq (sRet (eOp gEq (eVar 3) (eUn gInt (eOp gLt (eVar 1) (eVar 2)))))
  (sNil))
  (sNil))
  (sSeq (sIf (eOp gEq (eVar 0) (eC (.str [61]))) (sSeq (sRet (eOp gEq (eVar 3) (eUn gInt (eOp gEq (eVar 1) (eVar 2)))))
  (sNil))
  (sNil))
  (sSeq (sRet (eOp gEq (eVar 3) (eCallP (call j_law_by_bits) [] (eCons (eSh (eVar 0)) (eCons (eSh (eVar 1)) (eCons (eSh (eVar 2)) (eNil)))))))
  (sNil)))))))))) env := (rfl)
/-- law(_law_script) -/
def b_law_l0 (call mk : Call) : SS := sClrB [1, 2, 3, 4] (sSeq (sFzA 2 (sAsg (eCallP (call j_law_drawn) [] (eCons (eCallP (call j_law_cell) [] (eCons (eSh (eVar 0)) (eCons (eOp gMul (eC (.int 2)) (eVar 1)) (eNil)))) (eCons (eC (.int 7)) (eNil)))) (tgN 2)))
  (sSeq (sFzA 3 (sAsg (eCallP (call j_law_drawn) [] (eCons (eCallP (call j_law_cell) [] (eCons (eSh (eVar 0)) (eCons (eOp gAdd (eOp gMul (eC (.int 2)) (eVar 1)) (eC (.int 1))) (eNil)))) (eCons (eSh (eVar 2)) (eNil)))) (tgN 3)))
  (sSeq (sAsg (eSh (eOp gIx (eC (.str [43, 45, 42, 47, 60, 61, 38, 124, 94])) (eVar 1))) (tgN 4))
  (sSeq (sIf (eUn gNot (eCallP (call j_law_right) [] (eCons (eSh (eVar 4)) (eCons (eSh (eVar 2)) (eCons (eSh (eVar 3)) (eCons (eCallP (call j_value) [] (eCons (eSh (eVar 4)) (eCons (eSh (eVar 2)) (eCons (eSh (eVar 3)) (eNil))))) (eNil))))))) (sSeq (sRet (eC (.bl false)))
  (sNil))
  (sNil))
  (sSeq (sIf (eUn gNot (eCallP (call j_law_right) [] (eCons (eSh (eVar 4)) (eCons (eSh (eVar 3)) (eCons (eSh (eVar 2)) (eCons (eCallP (call j_value) [] (eCons (eSh (eVar 4)) (eCons (eSh (eVar 3)) (eCons (eSh (eVar 2)) (eNil))))) (eNil))))))) (sSeq (sRet (eC (.bl false)))
  (sNil))
  (sNil))
  (sSeq (sIf (eUn gNot (eCallP (call j_law_right) [] (eCons (eSh (eVar 4)) (eCons (eSh (eVar 2)) (eCons (eSh (eVar 3)) (eCons (eCallP (call j_value) [] (eCons (eSh (eVar 4)) (eCons (eSh (eVar 2)) (eCons (eSh (eVar 3)) (eNil))))) (eNil))))))) (sSeq (sRet (eC (.bl false)))
  (sNil))
  (sNil))
  (sNil)))))))
theorem u_law_l0 (call mk : Call) (env : Env) : b_law_l0 call mk env = (sClrB [1, 2, 3, 4] (sSeq (sFzA 2 (sAsg (eCallP (call j_law_drawn) [] (eCons (eCallP (call j_law_cell) [] (eCons (eSh (eVar 0)) (eCons (eOp gMul (eC (.int 2)) (eVar 1)) (eNil)))) (eCons (eC (.int 7)) (eNil)))) (tgN 2)))
  (sSeq (sFzA 3 (sAsg (eCallP (call j_law_drawn) [] (eCons (eCallP (call j_law_cell) [] (eCons (eSh (eVar 0)) (eCons (eOp gAdd (eOp gMul (eC (.int 2)) (eVar 1)) (eC (.int 1))) (eNil)))) (eCons (eSh (eVar 2)) (eNil)))) (tgN 3)))
  (sSeq (sAsg (eSh (eOp gIx (eC (.str [43, 45, 42, 47, 60, 61, 38, 124, 94])) (eVar 1))) (tgN 4))
  (sSeq (sIf (eUn gNot (eCallP (call j_law_right) [] (eCons (eSh (eVar 4)) (eCons (eSh (eVar 2)) (eCons (eSh (eVar 3)) (eCons (eCallP (call j_value) [] (eCons (eSh (eVar 4)) (eCons (eSh (eVar 2)) (eCons (eSh (eVar 3)) (eNil))))) (eNil))))))) (sSeq (sRet (eC (.bl false)))
  (sNil))
  (sNil))
  (sSeq (sIf (eUn gNot (eCallP (call j_law_right) [] (eCons (eSh (eVar 4)) (eCons (eSh (eVar 3)) (eCons (eSh (eVar 2)) (eCons (eCallP (call j_value) [] (eCons (eSh (eVar 4)) (eCons (eSh (eVar 3)) (eCons (eSh (eVar 2)) (eNil))))) (eNil))))))) (sSeq (sRet (eC (.bl false)))
  (sNil))
  (sNil))
  (sSeq (sIf (eUn gNot (eCallP (call j_law_right) [] (eCons (eSh (eVar 4)) (eCons (eSh (eVar 2)) (eCons (eSh (eVar 3)) (eCons (eCallP (call j_value) [] (eCons (eSh (eVar 4)) (eCons (eSh (eVar 2)) (eCons (eSh (eVar 3)) (eNil))))) (eNil))))))) (sSeq (sRet (eC (.bl false)))
  (sNil))
  (sNil))
  (sNil)))))))) env := (rfl)
def b_law (call mk : Call) : SS := sSeq (sPre [1, 2, 3, 4] (sForI (iRng (eC (.int 9))) (tgN 1)
  (b_law_l0 call mk)))
  (sSeq (sRet (eC (.bl true)))
  (sNil))
theorem u_law (call mk : Call) (env : Env) : b_law call mk env = (sSeq (sPre [1, 2, 3, 4] (sForI (iRng (eC (.int 9))) (tgN 1)
  (b_law_l0 call mk)))
  (sSeq (sRet (eC (.bl true)))
  (sNil))) env := (rfl)
def T : Nat → Fd := fun j => match j with
  | 0 => ⟨3, 3, [], b_value⟩
  | 1 => ⟨2, 3, [], b_law_cell⟩
  | 2 => ⟨2, 3, [], b_law_drawn⟩
  | 3 => ⟨1, 3, [], b_law_bits⟩
  | 4 => ⟨3, 7, [], b_law_by_bits⟩
  | 5 => ⟨4, 4, [], b_law_right⟩
  | 6 => ⟨1, 5, [], b_law⟩
  | _ => ⟨0, 0, [], fun _ _ => sNever⟩
theorem e_value (k : Nat) (x0 x1 x2 : Tg.D) : callAt T (k + 1) j_value [x0, x1, x2] = finF [] (b_value (callAt T k) (mkAt T k) [x0, x1, x2]) := (rfl)
theorem e_law_cell (k : Nat) (x0 x1 : Tg.D) : callAt T (k + 1) j_law_cell [x0, x1] = finF [] (b_law_cell (callAt T k) (mkAt T k) [x0, x1, .hole]) := (rfl)
theorem e_law_drawn (k : Nat) (x0 x1 : Tg.D) : callAt T (k + 1) j_law_drawn [x0, x1] = finF [] (b_law_drawn (callAt T k) (mkAt T k) [x0, x1, .hole]) := (rfl)
theorem e_law_bits (k : Nat) (x0 : Tg.D) : callAt T (k + 1) j_law_bits [x0] = finF [] (b_law_bits (callAt T k) (mkAt T k) [x0, .hole, .hole]) := (rfl)
theorem e_law_by_bits (k : Nat) (x0 x1 x2 : Tg.D) : callAt T (k + 1) j_law_by_bits [x0, x1, x2] = finF [] (b_law_by_bits (callAt T k) (mkAt T k) [x0, x1, x2, .hole, .hole, .hole, .hole]) := (rfl)
theorem e_law_right (k : Nat) (x0 x1 x2 x3 : Tg.D) : callAt T (k + 1) j_law_right [x0, x1, x2, x3] = finF [] (b_law_right (callAt T k) (mkAt T k) [x0, x1, x2, x3]) := (rfl)
theorem e_law (k : Nat) (x0 : Tg.D) : callAt T (k + 1) j_law [x0] = finF [] (b_law (callAt T k) (mkAt T k) [x0, .hole, .hole, .hole, .hole]) := (rfl)
/-- what is left: plain Lean -/
def Main : Prop := ∀ ns : List Int, ns.length ≤ 63 → callAt T 60 6 [.scr ns] = some (.bl true, [])
def top (i : Nat) : Stmt := PySem.Challenge.pw_turnguard_k21_values.main.body.getD i (.Pass ⟨0, 0, 0, 0⟩)
abbrev s0 : Stmt := top 2
abbrev s1 : Stmt := top 4
abbrev s2 : Stmt := top 5
abbrev s3 : Stmt := top 6
abbrev s4 : Stmt := top 7
abbrev s5 : Stmt := top 8
abbrev s6 : Stmt := top 9
/-- the classes -/
def clf (K : PySem.W.Frag) : Nat → Addr := fun j => match j with
  | _ => 0
abbrev cl (P : Program) (w : World) (K : PySem.W.Frag) : Cl := ⟨clf K, P, w, []⟩
/-- the module's names -/
structure Gx (K : PySem.W.Frag) (mg : Str → Option Value) : Prop where
  g_bool : mg "bool" = none
  g_int : mg "int" = none
  g_isinstance : mg "isinstance" = none
  g_len : mg "len" = none
  g_list : mg "list" = none
  g_range : mg "range" = none
  g_zip : mg "zip" = none
  v_WIDE : ∃ t, mg "WIDE" = some (.int 281474976710656 t)
  ok : True
/-- the defs that are called -/
structure Fx (P : Program) (w : World) (K : PySem.W.Frag) (mg : Str → Option Value) (base : Heap) (k : Nat) : Prop where
  c0_0 : CF P w K mg base (cl P w K) k "value" (callAt T k 0) [] 3 []
  c1_0 : CF P w K mg base (cl P w K) k "_law_cell" (callAt T k 1) [] 2 []
  c2_0 : CF P w K mg base (cl P w K) k "_law_drawn" (callAt T k 2) [] 2 []
  c3_0 : CF P w K mg base (cl P w K) k "_law_bits" (callAt T k 3) [] 1 []
  c4_0 : CF P w K mg base (cl P w K) k "_law_by_bits" (callAt T k 4) [] 3 []
  c5_0 : CF P w K mg base (cl P w K) k "_law_right" (callAt T k 5) [] 4 []
  ok : True
section
variable {P : Program} {w : World} {K : PySem.W.Frag} {mg : Str → Option Value} {base : Heap} {k : Nat}
theorem sc0 : FnScope ["sign", "one", "other"] ["sign", "one", "other"] (defScope s0) := ⟨rfl, rfl, rfl, by decide +kernel, rfl, by decide +kernel, by decide +kernel⟩
theorem sb0 (G : Gx K mg) (h : Fx P w K mg base k) (f : Addr) (cdv : Value) (A : Around) (outer : List PySem.Env) (s : Shared) (H : Hp) (E : XK) (hr : Room k (A.deeper (PyProof.Rows.envOfC "value" (defScope s0) s.heap.objs.size f cdv))) :
    Sb (cxOf CX0 P w K mg base ["sign", "one", "other"] "value" (defScope s0) f cdv A outer s H E).nox (cl P w K) [] (defBody s0) (b_value (callAt T k) (mkAt T k)) := by
  have nd := sc0.nd
  have hu := hr.units
  have hv := room100 hr
  exact sb_cons (sm_if (te_cmp (go_eq hu) (pk_var 0) ((se_str (l := [43])).pk) (nomark _)) (sb_cons (sm_ret (se_bin go_mod ((se_bin go_add (pk_var 1) (pk_var 2)).pk) (((se_gint (by rfl) G.v_WIDE.choose_spec)).pk)))
    (sb_nil))
    (sb_nil))
    (sb_cons (sm_if (te_cmp (go_eq hu) (pk_var 0) ((se_str (l := [45])).pk) (nomark _)) (sb_cons (sm_ret (se_bin go_mod ((se_bin go_sub (pk_var 1) (pk_var 2)).pk) (((se_gint (by rfl) G.v_WIDE.choose_spec)).pk)))
    (sb_nil))
    (sb_nil))
    (sb_cons (sm_if (te_cmp (go_eq hu) (pk_var 0) ((se_str (l := [42])).pk) (nomark _)) (sb_cons (sm_ret (se_bin go_mod ((se_bin go_mul (pk_var 1) (pk_var 2)).pk) (((se_gint (by rfl) G.v_WIDE.choose_spec)).pk)))
    (sb_nil))
    (sb_nil))
    (sb_cons (sm_if (te_cmp (go_eq hu) (pk_var 0) ((se_str (l := [47])).pk) (nomark _)) (sb_cons (sm_ret (se_ifx (te_cmp (go_ne hu) (pk_var 2) ((se_int).pk) (nomark _)) (se_bin go_div (pk_var 1) (pk_var 2)) (se_int)))
    (sb_nil))
    (sb_nil))
    (sb_cons (sm_if (te_cmp (go_eq hu) (pk_var 0) ((se_str (l := [60])).pk) (nomark _)) (sb_cons (sm_ret (se_ty gf_int (by rfl) G.g_int (by decide +kernel) ((se_cmp go_lt (pk_var 1) (pk_var 2) (nomark _)).pk)))
    (sb_nil))
    (sb_nil))
    (sb_cons (sm_if (te_cmp (go_eq hu) (pk_var 0) ((se_str (l := [61])).pk) (nomark _)) (sb_cons (sm_ret (se_ty gf_int (by rfl) G.g_int (by decide +kernel) ((se_cmp (go_eq hu) (pk_var 1) (pk_var 2) (nomark _)).pk)))
    (sb_nil))
    (sb_nil))
    (sb_cons (sm_if (te_cmp (go_eq hu) (pk_var 0) ((se_str (l := [38])).pk) (nomark _)) (sb_cons (sm_ret (se_bin go_andI (pk_var 1) (pk_var 2)))
    (sb_nil))
    (sb_nil))
    (sb_cons (sm_if (te_cmp (go_eq hu) (pk_var 0) ((se_str (l := [124])).pk) (nomark _)) (sb_cons (sm_ret (se_bin go_orB (pk_var 1) (pk_var 2)))
    (sb_nil))
    (sb_nil))
    (sb_cons (sm_ret (se_bin go_xorB (pk_var 1) (pk_var 2)))
    (sb_nil)))))))))
theorem sc1 : FnScope ["_law_script", "_law_k", "_law_number"] ["_law_script", "_law_k"] (defScope s1) := ⟨rfl, rfl, rfl, by decide +kernel, rfl, by decide +kernel, by decide +kernel⟩
theorem sb1 (G : Gx K mg) (h : Fx P w K mg base k) (f : Addr) (cdv : Value) (A : Around) (outer : List PySem.Env) (s : Shared) (H : Hp) (E : XK) (hr : Room k (A.deeper (PyProof.Rows.envOfC "_law_cell" (defScope s1) s.heap.objs.size f cdv))) :
    Sb (cxOf CX0 P w K mg base ["_law_script", "_law_k", "_law_number"] "_law_cell" (defScope s1) f cdv A outer s H E).nox (cl P w K) [] (defBody s1) (b_law_cell (callAt T k) (mkAt T k)) := by
  have nd := sc1.nd
  have hu := hr.units
  have hv := room100 hr
  exact sb_cons (sm_if ((tw_and (te_cmp go_gt ((se_fn gf_len (by rfl) G.g_len (by decide +kernel) (pk_var 0)).pk) ((se_int).pk) (nomark _)) (tw_one_and (te_cmp (go_eq hu) ((se_bin go_mod (pk_ix (pk_var 0) ((se_int).pk) (fun _ _ => rfl)) ((se_int).pk)).pk) ((se_int).pk) (nomark _)))).te) (sb_cons (sm_ret (se_bin go_andI ((se_bin go_shr (pk_ix (pk_var 0) ((se_bin go_mod ((se_bin go_div (pk_var 1) ((se_int).pk)).pk) ((se_fn gf_len (by rfl) G.g_len (by decide +kernel) (pk_var 0)).pk)).pk) (fun _ _ => rfl)) ((se_bin go_add ((se_int).pk) ((se_bin go_mul ((se_int).pk) ((se_bin go_mod (pk_var 1) ((se_int).pk)).pk)).pk)).pk)).pk) ((se_int).pk)))
    (sb_nil))
    (sb_nil))
    (sb_cons (sm_asg (se_bin go_add ((se_bin go_mul ((se_int).pk) (pk_var 1)).pk) ((se_int).pk)) (tt_name 2 nd))
    (sb_cons (sm_if (te_cmp go_gt ((se_fn gf_len (by rfl) G.g_len (by decide +kernel) (pk_var 0)).pk) ((se_int).pk) (nomark _)) (sb_cons (sm_asg (se_bin go_add ((se_bin go_mul (pk_ix (pk_var 0) ((se_bin go_mod (pk_var 1) ((se_fn gf_len (by rfl) G.g_len (by decide +kernel) (pk_var 0)).pk)).pk) (fun _ _ => rfl)) ((se_int).pk)).pk) ((se_bin go_mul ((se_int).pk) (pk_var 1)).pk)) (tt_name 2 nd))
    (sb_nil))
    (sb_nil))
    (sb_cons (sm_asg (se_bin go_mod (pk_var 2) ((se_int).pk)) (tt_name 2 nd))
    (sb_cons (sm_asg (se_bin go_add ((se_bin go_mul ((se_bin go_mod ((se_bin go_mul (pk_var 2) (pk_var 2)).pk) ((se_int).pk)).pk) ((se_int).pk)).pk) ((se_int).pk)) (tt_name 2 nd))
    (sb_cons (sm_ret (se_bin go_mod ((se_bin go_mul (pk_var 2) (pk_var 2)).pk) ((se_int).pk)))
    (sb_nil))))))
theorem sc2 : FnScope ["_law_cell_here", "_law_other", "_law_rest"] ["_law_cell_here", "_law_other"] (defScope s2) := ⟨rfl, rfl, rfl, by decide +kernel, rfl, by decide +kernel, by decide +kernel⟩
theorem sb2 (G : Gx K mg) (h : Fx P w K mg base k) (f : Addr) (cdv : Value) (A : Around) (outer : List PySem.Env) (s : Shared) (H : Hp) (E : XK) (hr : Room k (A.deeper (PyProof.Rows.envOfC "_law_drawn" (defScope s2) s.heap.objs.size f cdv))) :
    Sb (cxOf CX0 P w K mg base ["_law_cell_here", "_law_other", "_law_rest"] "_law_drawn" (defScope s2) f cdv A outer s H E).nox (cl P w K) [] (defBody s2) (b_law_drawn (callAt T k) (mkAt T k)) := by
  have nd := sc2.nd
  have hu := hr.units
  have hv := room100 hr
  exact sb_cons (sm_asg (se_bin go_div (pk_var 0) ((se_int).pk)) (tt_name 2 nd))
    (sb_cons (sm_if (te_cmp (go_eq hu) ((se_bin go_mod (pk_var 0) ((se_int).pk)).pk) ((se_int).pk) (nomark _)) (sb_cons (sm_ret (se_bin go_mod (pk_var 2) ((se_int).pk)))
    (sb_nil))
    (sb_nil))
    (sb_cons (sm_if (te_cmp (go_eq hu) ((se_bin go_mod (pk_var 0) ((se_int).pk)).pk) ((se_int).pk) (nomark _)) (sb_cons (sm_ret (se_bin go_sub ((se_bin go_shl ((se_int).pk) ((se_bin go_mod (pk_var 2) ((se_int).pk)).pk)).pk) ((se_int).pk)))
    (sb_nil))
    (sb_nil))
    (sb_cons (sm_if (te_cmp (go_eq hu) ((se_bin go_mod (pk_var 0) ((se_int).pk)).pk) ((se_int).pk) (nomark _)) (sb_cons (sm_ret (se_bin go_shl ((se_int).pk) ((se_bin go_mod (pk_var 2) ((se_int).pk)).pk)))
    (sb_nil))
    (sb_nil))
    (sb_cons (sm_if (te_cmp (go_eq hu) ((se_bin go_mod (pk_var 0) ((se_int).pk)).pk) ((se_int).pk) (nomark _)) (sb_cons (sm_retM (sv_mv (pt_var 1)))
    (sb_nil))
    (sb_nil))
    (sb_cons (sm_if (te_cmp (go_eq hu) ((se_bin go_mod (pk_var 0) ((se_int).pk)).pk) ((se_int).pk) (nomark _)) (sb_cons (sm_ret (se_bin go_sub ((se_int).pk) ((se_bin go_mod (pk_var 2) ((se_int).pk)).pk)))
    (sb_nil))
    (sb_nil))
    (sb_cons (sm_ret (se_bin go_mod (pk_ix ((se_lstN (sa_cons (se_bin go_div (pk_var 2) ((se_int).pk)) (sa_cons (se_bin go_mul ((se_bin go_mul (pk_var 2) (pk_var 2)).pk) ((se_int).pk)) (sa_nil))) (la_cons (la_cons la_nil))).pk) ((se_bin go_mod (pk_var 2) ((se_int).pk)).pk) (fun _ _ => rfl)) ((se_bin go_shl ((se_int).pk) ((se_int).pk)).pk)))
    (sb_nil)))))))
theorem sc3 : FnScope ["_law_number", "_law_bits_here", "_law_k"] ["_law_number"] (defScope s3) := ⟨rfl, rfl, rfl, by decide +kernel, rfl, by decide +kernel, by decide +kernel⟩
theorem sb3 (G : Gx K mg) (h : Fx P w K mg base k) (f : Addr) (cdv : Value) (A : Around) (outer : List PySem.Env) (s : Shared) (H : Hp) (E : XK) (hr : Room k (A.deeper (PyProof.Rows.envOfC "_law_bits" (defScope s3) s.heap.objs.size f cdv))) :
    Sb (cxOf CX0 P w K mg base ["_law_number", "_law_bits_here", "_law_k"] "_law_bits" (defScope s3) f cdv A outer s H E).nox (cl P w K) [] (defBody s3) (b_law_bits (callAt T k) (mkAt T k)) := by
  have nd := sc3.nd
  have hu := hr.units
  have hv := room100 hr
  exact sb_cons (sm_asg (se_lstN (sa_nil) (la_nil)) (tt_name 1 nd))
    (sb_cons (sm_pre (sm_for (ii_rng ((se_int).pk) (by rfl) G.g_range) (tt_name 2 nd)
    (sb_clr (sb_cons (sm_app (pt_var 1) (se_bin go_mod (pk_var 0) ((se_int).pk)))
    (sb_cons (sm_asg (se_bin go_div (pk_var 0) ((se_int).pk)) (tt_name 0 nd))
    (sb_nil))))))
    (sb_cons (sm_retM (sv_mv (pt_var 1)))
    (sb_nil)))
theorem sc4 : FnScope ["_law_sign", "_law_one", "_law_other", "_law_number", "_law_a", "_law_b", "_law_bit"] ["_law_sign", "_law_one", "_law_other"] (defScope s4) := ⟨rfl, rfl, rfl, by decide +kernel, rfl, by decide +kernel, by decide +kernel⟩
theorem sb4 (G : Gx K mg) (h : Fx P w K mg base k) (f : Addr) (cdv : Value) (A : Around) (outer : List PySem.Env) (s : Shared) (H : Hp) (E : XK) (hr : Room k (A.deeper (PyProof.Rows.envOfC "_law_by_bits" (defScope s4) s.heap.objs.size f cdv))) :
    Sb (cxOf CX0 P w K mg base ["_law_sign", "_law_one", "_law_other", "_law_number", "_law_a", "_law_b", "_law_bit"] "_law_by_bits" (defScope s4) f cdv A outer s H E).nox (cl P w K) [] (defBody s4) (b_law_by_bits (callAt T k) (mkAt T k)) := by
  have nd := sc4.nd
  have hu := hr.units
  have hv := room100 hr
  exact sb_cons (sm_asg (se_int) (tt_name 3 nd))
    (sb_cons (sm_pre (sm_for (ii_seq (se_revL1 ((se_listZip (se_callP h.c3_0 hr (by rfl) (sa_cons ((pk_var 1).se) (sa_nil))) (se_callP h.c3_0 hr (by rfl) (sa_cons ((pk_var 2).se) (sa_nil))) rfl (by rfl) G.g_list (by rfl) G.g_zip).pk))) (tt_tupX (tts_cons (tt_name 4 nd) (tts_cons (tt_name 5 nd) (tts_nil))))
    (sb_clr (sb_cons (sm_asg (se_bin go_mul (pk_var 4) (pk_var 5)) (tt_name 6 nd))
    (sb_cons (sm_if (te_cmp (go_eq hu) (pk_var 0) ((se_str (l := [124])).pk) (nomark _)) (sb_cons (sm_asg (se_bin go_sub ((se_bin go_add (pk_var 4) (pk_var 5)).pk) ((se_bin go_mul (pk_var 4) (pk_var 5)).pk)) (tt_name 6 nd))
    (sb_nil))
    (sb_nil))
    (sb_cons (sm_if (te_cmp (go_eq hu) (pk_var 0) ((se_str (l := [94])).pk) (nomark _)) (sb_cons (sm_asg (se_bin go_mod ((se_bin go_add (pk_var 4) (pk_var 5)).pk) ((se_int).pk)) (tt_name 6 nd))
    (sb_nil))
    (sb_nil))
    (sb_cons (sm_asg (se_bin go_add ((se_bin go_mul ((se_int).pk) (pk_var 3)).pk) (pk_var 6)) (tt_name 3 nd))
    (sb_nil))))))))
    (sb_cons (sm_retM (sv_mv (pt_var 3)))
    (sb_nil)))
theorem sc5 : FnScope ["_law_sign", "_law_one", "_law_other", "_law_found"] ["_law_sign", "_law_one", "_law_other", "_law_found"] (defScope s5) := ⟨rfl, rfl, rfl, by decide +kernel, rfl, by decide +kernel, by decide +kernel⟩
theorem sb5 (G : Gx K mg) (h : Fx P w K mg base k) (f : Addr) (cdv : Value) (A : Around) (outer : List PySem.Env) (s : Shared) (H : Hp) (E : XK) (hr : Room k (A.deeper (PyProof.Rows.envOfC "_law_right" (defScope s5) s.heap.objs.size f cdv))) :
    Sb (cxOf CX0 P w K mg base ["_law_sign", "_law_one", "_law_other", "_law_found"] "_law_right" (defScope s5) f cdv A outer s H E).nox (cl P w K) [] (defBody s5) (b_law_right (callAt T k) (mkAt T k)) := by
  have nd := sc5.nd
  have hu := hr.units
  have hv := room100 hr
  exact sb_cons (sm_if ((tw_or (te_not (te_val ((se_isi (t := .int) (pk_var 3) (by rfl) G.g_isinstance (by rfl) G.g_int (by decide +kernel)).pk))) (tw_or (te_val ((se_isi (t := .bool) (pk_var 3) (by rfl) G.g_isinstance (by rfl) G.g_bool (by decide +kernel)).pk)) (tw_one_or (te_not (te_chain gc_le gc_lt ((se_int).pk) (pk_var 3) ((se_int).pk)))))).te) (sb_cons (sm_ret (se_bl))
    (sb_nil))
    (sb_nil))
    (sb_cons (sm_if (te_cmp (go_eq hu) (pk_var 0) ((se_str (l := [43])).pk) (nomark _)) (sb_cons (sm_ret (se_cmp go_in (pk_var 3) ((se_lstN (sa_cons (se_bin go_add (pk_var 1) (pk_var 2)) (sa_cons (se_bin go_sub ((se_bin go_add (pk_var 1) (pk_var 2)).pk) ((se_int).pk)) (sa_nil))) (la_cons (la_cons la_nil))).pk) (by rfl)))
    (sb_nil))
    (sb_nil))
    (sb_cons (sm_if (te_cmp (go_eq hu) (pk_var 0) ((se_str (l := [45])).pk) (nomark _)) (sb_cons (sm_ret (se_cmp go_in (pk_var 3) ((se_lstN (sa_cons (se_bin go_sub (pk_var 1) (pk_var 2)) (sa_cons (se_bin go_add ((se_bin go_sub (pk_var 1) (pk_var 2)).pk) ((se_int).pk)) (sa_nil))) (la_cons (la_cons la_nil))).pk) (by rfl)))
    (sb_nil))
    (sb_nil))
    (sb_cons (sm_if (te_cmp (go_eq hu) (pk_var 0) ((se_str (l := [42])).pk) (nomark _)) (sb_cons (sm_ret (se_cmp (go_eq hu) ((se_bin go_mod ((se_bin go_sub ((se_bin go_mul (pk_var 1) (pk_var 2)).pk) (pk_var 3)).pk) ((se_int).pk)).pk) ((se_int).pk) (nomark _)))
    (sb_nil))
    (sb_nil))
    (sb_cons (sm_if ((tw_and (te_cmp (go_eq hu) (pk_var 0) ((se_str (l := [47])).pk) (nomark _)) (tw_one_and (te_cmp go_gt (pk_var 2) ((se_int).pk) (nomark _)))).te) (sb_cons (sm_ret (se_chain gc_le gc_lt ((se_bin go_mul (pk_var 3) (pk_var 2)).pk) (pk_var 1) ((se_bin go_mul ((se_bin go_add (pk_var 3) ((se_int).pk)).pk) (pk_var 2)).pk)))
    (sb_nil))
    (sb_nil))
    (sb_cons (sm_if (te_cmp (go_eq hu) (pk_var 0) ((se_str (l := [47])).pk) (nomark _)) (sb_cons (sm_ret (se_cmp (go_eq hu) (pk_var 3) ((se_int).pk) (nomark _)))
    (sb_nil))
    (sb_nil))
    (sb_cons (sm_if (te_cmp (go_eq hu) (pk_var 0) ((se_str (l := [60])).pk) (nomark _)) (sb_cons (sm_ret (se_cmp (go_eq hu) (pk_var 3) ((se_ty gf_int (by rfl) G.g_int (by decide +kernel) ((se_cmp go_lt (pk_var 1) (pk_var 2) (nomark _)).pk)).pk) (nomark _)))
    (sb_nil))
    (sb_nil))
    (sb_cons (sm_if (te_cmp (go_eq hu) (pk_var 0) ((se_str (l := [61])).pk) (nomark _)) (sb_cons (sm_ret (se_cmp (go_eq hu) (pk_var 3) ((se_ty gf_int (by rfl) G.g_int (by decide +kernel) ((se_cmp (go_eq hu) (pk_var 1) (pk_var 2) (nomark _)).pk)).pk) (nomark _)))
    (sb_nil))
    (sb_nil))
    (sb_cons (sm_ret (se_cmp (go_eq hu) (pk_var 3) ((se_callP h.c4_0 hr (by rfl) (sa_cons ((pk_var 0).se) (sa_cons ((pk_var 1).se) (sa_cons ((pk_var 2).se) (sa_nil))))).pk) (nomark _)))
    (sb_nil)))))))))
theorem sc6 : FnScope ["_law_script", "_law_k", "_law_one", "_law_other", "_law_sign"] ["_law_script"] (defScope s6) := ⟨rfl, rfl, rfl, by decide +kernel, rfl, by decide +kernel, by decide +kernel⟩
theorem sb6 (G : Gx K mg) (h : Fx P w K mg base k) (f : Addr) (cdv : Value) (A : Around) (outer : List PySem.Env) (s : Shared) (H : Hp) (E : XK) (hr : Room k (A.deeper (PyProof.Rows.envOfC "law" (defScope s6) s.heap.objs.size f cdv))) :
    Sb (cxOf CX0 P w K mg base ["_law_script", "_law_k", "_law_one", "_law_other", "_law_sign"] "law" (defScope s6) f cdv A outer s H E).nox (cl P w K) [] (defBody s6) (b_law (callAt T k) (mkAt T k)) := by
  have nd := sc6.nd
  have hu := hr.units
  have hv := room100 hr
  exact sb_cons (sm_pre (sm_for (ii_rng ((se_int).pk) (by rfl) G.g_range) (tt_name 1 nd)
    (sb_clr (sb_cons (sm_fzA (i := 2) (sm_asg (se_callP h.c2_0 hr (by rfl) (sa_cons (se_callP h.c1_0 hr (by rfl) (sa_cons ((pk_var 0).se) (sa_cons (se_bin go_mul ((se_int).pk) (pk_var 1)) (sa_nil)))) (sa_cons (se_int) (sa_nil)))) (tt_name 2 nd)))
    (sb_cons (sm_fzA (i := 3) (sm_asg (se_callP h.c2_0 hr (by rfl) (sa_cons (se_callP h.c1_0 hr (by rfl) (sa_cons ((pk_var 0).se) (sa_cons (se_bin go_add ((se_bin go_mul ((se_int).pk) (pk_var 1)).pk) ((se_int).pk)) (sa_nil)))) (sa_cons ((pk_var 2).se) (sa_nil)))) (tt_name 3 nd)))
    (sb_cons (sm_asg ((pk_ix ((se_str (l := [43, 45, 42, 47, 60, 61, 38, 124, 94])).pk) (pk_var 1) (fun _ _ => rfl)).se) (tt_name 4 nd))
    (sb_cons (sm_if (te_not (te_val ((se_callP h.c5_0 hr (by rfl) (sa_cons ((pk_var 4).se) (sa_cons ((pk_var 2).se) (sa_cons ((pk_var 3).se) (sa_cons (se_callP h.c0_0 hr (by rfl) (sa_cons ((pk_var 4).se) (sa_cons ((pk_var 2).se) (sa_cons ((pk_var 3).se) (sa_nil))))) (sa_nil)))))).pk))) (sb_cons (sm_ret (se_bl))
    (sb_nil))
    (sb_nil))
    (sb_cons (sm_if (te_not (te_val ((se_callP h.c5_0 hr (by rfl) (sa_cons ((pk_var 4).se) (sa_cons ((pk_var 3).se) (sa_cons ((pk_var 2).se) (sa_cons (se_callP h.c0_0 hr (by rfl) (sa_cons ((pk_var 4).se) (sa_cons ((pk_var 3).se) (sa_cons ((pk_var 2).se) (sa_nil))))) (sa_nil)))))).pk))) (sb_cons (sm_ret (se_bl))
    (sb_nil))
    (sb_nil))
    (sb_cons (sm_if (te_not (te_val ((se_callP h.c5_0 hr (by rfl) (sa_cons ((pk_var 4).se) (sa_cons ((pk_var 2).se) (sa_cons ((pk_var 3).se) (sa_cons (se_callP h.c0_0 hr (by rfl) (sa_cons ((pk_var 4).se) (sa_cons ((pk_var 2).se) (sa_cons ((pk_var 3).se) (sa_nil))))) (sa_nil)))))).pk))) (sb_cons (sm_ret (se_bl))
    (sb_nil))
    (sb_nil))
    (sb_nil))))))))))
    (sb_cons (sm_ret (se_bl))
    (sb_nil))
end
/-! ### the head -/
def df0 : He.DefD := ⟨("value", none), "value", "value", defArgs s0, defBody s0, defScope s0, [], []⟩
def df1 : He.DefD := ⟨("_law_cell", none), "_law_cell", "_law_cell", defArgs s1, defBody s1, defScope s1, [], []⟩
def df2 : He.DefD := ⟨("_law_drawn", none), "_law_drawn", "_law_drawn", defArgs s2, defBody s2, defScope s2, [], []⟩
def df3 : He.DefD := ⟨("_law_bits", none), "_law_bits", "_law_bits", defArgs s3, defBody s3, defScope s3, [], []⟩
def df4 : He.DefD := ⟨("_law_by_bits", none), "_law_by_bits", "_law_by_bits", defArgs s4, defBody s4, defScope s4, [], []⟩
def df5 : He.DefD := ⟨("_law_right", none), "_law_right", "_law_right", defArgs s5, defBody s5, defScope s5, [], []⟩
def df6 : He.DefD := ⟨("law", none), "law", "law", defArgs s6, defBody s6, defScope s6, [], []⟩
def fn : List He.DefD := [df0, df1, df2, df3, df4, df5, df6]
def fa : List He.Fa := [.glo "value", .glo "_law_cell", .glo "_law_drawn", .glo "_law_bits", .glo "_law_by_bits", .glo "_law_right", .glo "law", .free "bool", .free "int", .free "isinstance", .free "len", .free "list", .free "range", .free "zip", .int "WIDE" (281474976710656)]
abbrev R : PySem.W.OpenRow := PySem.W.OpenLaw.row PySem.Challenge.rw_turnguard_k21_values
abbrev hk : PySem.W.Hook := He.hookD 4 fa fn
def ob (s : PySem.W.SharedT) : He.AlD := He.obsDG 4 fa fn (HandSHeadRun.getT s)
theorem ob_eq (s : PySem.W.SharedT) : ob s = hk.obs s.abs := He.obsDG_eq (HandSHeadRun.getT_eq s)
def nm0 : List PySem.Str := ["WIDE", "value", "_law_cell", "_law_drawn", "_law_bits", "_law_by_bits", "_law_right"]
def names : List PySem.Str := nm0
theorem run (w : World) : HandSHeadRun.RunEq R (PySem.W.view R.prog [9]) hk ob 800 names w := by
  intro os
  kernel_rfl
section
variable {P : Program} {w : World} {K : PySem.W.Frag} {h : Heap} {mg : Str → Option Value}
theorem gx (X : K.In h) (G : h.Ns mainGlobals mg) (c : He.SaysD fa fn K) : Gx K mg where
  g_bool := He.free_ok X G (c.fact 7 (f := .free "bool") rfl)
  g_int := He.free_ok X G (c.fact 8 (f := .free "int") rfl)
  g_isinstance := He.free_ok X G (c.fact 9 (f := .free "isinstance") rfl)
  g_len := He.free_ok X G (c.fact 10 (f := .free "len") rfl)
  g_list := He.free_ok X G (c.fact 11 (f := .free "list") rfl)
  g_range := He.free_ok X G (c.fact 12 (f := .free "range") rfl)
  g_zip := He.free_ok X G (c.fact 13 (f := .free "zip") rfl)
  v_WIDE := He.int_ok X G (c.fact 14 (f := .int "WIDE" (281474976710656)) rfl)
  ok := trivial
theorem okAll (X : K.In h) (G : h.Ns mainGlobals mg) (c : He.SaysD fa fn K) (base : Heap) : ∀ k : Nat, Fx P w K mg base k := fun k => by
  induction k with
  | zero => exact {
      c0_0 := cf_mk (ps := ["sign", "one", "other"]) c 0 df0 rfl (He.glo_ok X G (c.fact 0 (f := .glo "value") rfl)) (fun fd F => fn_zero) (fun fd F => bN_ok (ps := ["sign", "one", "other"]) F fun _ _ _ _ _ _ us hl => match us, hl with | [_, _, _], _ => rfl) (fun _ _ q => callAt_len q)
      c1_0 := cf_mk (ps := ["_law_script", "_law_k"]) c 1 df1 rfl (He.glo_ok X G (c.fact 1 (f := .glo "_law_cell") rfl)) (fun fd F => fn_zero) (fun fd F => bN_ok (ps := ["_law_script", "_law_k"]) F fun _ _ _ _ _ _ us hl => match us, hl with | [_, _], _ => rfl) (fun _ _ q => callAt_len q)
      c2_0 := cf_mk (ps := ["_law_cell_here", "_law_other"]) c 2 df2 rfl (He.glo_ok X G (c.fact 2 (f := .glo "_law_drawn") rfl)) (fun fd F => fn_zero) (fun fd F => bN_ok (ps := ["_law_cell_here", "_law_other"]) F fun _ _ _ _ _ _ us hl => match us, hl with | [_, _], _ => rfl) (fun _ _ q => callAt_len q)
      c3_0 := cf_mk (ps := ["_law_number"]) c 3 df3 rfl (He.glo_ok X G (c.fact 3 (f := .glo "_law_bits") rfl)) (fun fd F => fn_zero) (fun fd F => bN_ok (ps := ["_law_number"]) F fun _ _ _ _ _ _ us hl => match us, hl with | [_], _ => rfl) (fun _ _ q => callAt_len q)
      c4_0 := cf_mk (ps := ["_law_sign", "_law_one", "_law_other"]) c 4 df4 rfl (He.glo_ok X G (c.fact 4 (f := .glo "_law_by_bits") rfl)) (fun fd F => fn_zero) (fun fd F => bN_ok (ps := ["_law_sign", "_law_one", "_law_other"]) F fun _ _ _ _ _ _ us hl => match us, hl with | [_, _, _], _ => rfl) (fun _ _ q => callAt_len q)
      c5_0 := cf_mk (ps := ["_law_sign", "_law_one", "_law_other", "_law_found"]) c 5 df5 rfl (He.glo_ok X G (c.fact 5 (f := .glo "_law_right") rfl)) (fun fd F => fn_zero) (fun fd F => bN_ok (ps := ["_law_sign", "_law_one", "_law_other", "_law_found"]) F fun _ _ _ _ _ _ us hl => match us, hl with | [_, _, _, _], _ => rfl) (fun _ _ q => callAt_len q)
      ok := trivial }
  | succ k ih => exact {
      c0_0 := cf_mk (ps := ["sign", "one", "other"]) c 0 df0 rfl (He.glo_ok X G (c.fact 0 (f := .glo "value") rfl)) (fun fd F => fn_ok F sc0 rfl (.inl rfl) (fun cdv A outer s H E hr => sb0 (gx X G c) ih _ cdv A outer s H E hr)) (fun fd F => bN_ok (ps := ["sign", "one", "other"]) F fun _ _ _ _ _ _ us hl => match us, hl with | [_, _, _], _ => rfl) (fun _ _ q => callAt_len q)
      c1_0 := cf_mk (ps := ["_law_script", "_law_k"]) c 1 df1 rfl (He.glo_ok X G (c.fact 1 (f := .glo "_law_cell") rfl)) (fun fd F => fn_ok F sc1 rfl (.inl rfl) (fun cdv A outer s H E hr => sb1 (gx X G c) ih _ cdv A outer s H E hr)) (fun fd F => bN_ok (ps := ["_law_script", "_law_k"]) F fun _ _ _ _ _ _ us hl => match us, hl with | [_, _], _ => rfl) (fun _ _ q => callAt_len q)
      c2_0 := cf_mk (ps := ["_law_cell_here", "_law_other"]) c 2 df2 rfl (He.glo_ok X G (c.fact 2 (f := .glo "_law_drawn") rfl)) (fun fd F => fn_ok F sc2 rfl (.inl rfl) (fun cdv A outer s H E hr => sb2 (gx X G c) ih _ cdv A outer s H E hr)) (fun fd F => bN_ok (ps := ["_law_cell_here", "_law_other"]) F fun _ _ _ _ _ _ us hl => match us, hl with | [_, _], _ => rfl) (fun _ _ q => callAt_len q)
      c3_0 := cf_mk (ps := ["_law_number"]) c 3 df3 rfl (He.glo_ok X G (c.fact 3 (f := .glo "_law_bits") rfl)) (fun fd F => fn_ok F sc3 rfl (.inl rfl) (fun cdv A outer s H E hr => sb3 (gx X G c) ih _ cdv A outer s H E hr)) (fun fd F => bN_ok (ps := ["_law_number"]) F fun _ _ _ _ _ _ us hl => match us, hl with | [_], _ => rfl) (fun _ _ q => callAt_len q)
      c4_0 := cf_mk (ps := ["_law_sign", "_law_one", "_law_other"]) c 4 df4 rfl (He.glo_ok X G (c.fact 4 (f := .glo "_law_by_bits") rfl)) (fun fd F => fn_ok F sc4 rfl (.inl rfl) (fun cdv A outer s H E hr => sb4 (gx X G c) ih _ cdv A outer s H E hr)) (fun fd F => bN_ok (ps := ["_law_sign", "_law_one", "_law_other"]) F fun _ _ _ _ _ _ us hl => match us, hl with | [_, _, _], _ => rfl) (fun _ _ q => callAt_len q)
      c5_0 := cf_mk (ps := ["_law_sign", "_law_one", "_law_other", "_law_found"]) c 5 df5 rfl (He.glo_ok X G (c.fact 5 (f := .glo "_law_right") rfl)) (fun fd F => fn_ok F sc5 rfl (.inl rfl) (fun cdv A outer s H E hr => sb5 (gx X G c) ih _ cdv A outer s H E hr)) (fun fd F => bN_ok (ps := ["_law_sign", "_law_one", "_law_other", "_law_found"]) F fun _ _ _ _ _ _ us hl => match us, hl with | [_, _, _, _], _ => rfl) (fun _ _ q => callAt_len q)
      ok := trivial }
end
end Lw
open PySem PySem.W PySem.Calls PyProof.Rows in
theorem Lw.holds (hM : Lw.Main) : PySem.Challenge.rw_turnguard_k21_values.Holds := by
  w_on; o_law
  refine HandSHeadRun.head_any (r := OpenLaw.row PySem.Challenge.rw_turnguard_k21_values) (q := view (OpenLaw.row PySem.Challenge.rw_turnguard_k21_values).prog [9]) (H := Lw.hk) (ob := Lw.ob) (M := 800) (loose := Lw.names) (d := HandSHeadRun.topDef (OpenLaw.row PySem.Challenge.rw_turnguard_k21_values).prog 9) (kwd := []) Lw.ob_eq
    (by kernel_rfl) (fun s => by kernel_rfl) Lw.run (by kernel_rfl) (by kernel_rfl) (by kernel_rfl) (by rfl) (by first | assumption | decide +kernel) (by decide +kernel) ⟨rfl, rfl, rfl, rfl, rfl, by decide +kernel⟩ ?hw ?hc
  case hw => w_witness2
  case hc =>
    refine L2.walk_ofE (l := PySem.Challenge.rw_turnguard_k21_values) (n := 63) (k := 60) (x := "_law_script") (CX := L2.CX0) rfl (by decide) (by kernel_rfl) ⟨rfl, by decide, by decide⟩ ?F (fun _ _ _ _ z => z)
    intro w mg fa h Y G hmg0
    obtain ⟨K, KX, c⟩ := Y
    have hmg : mg ("law" : PySem.Str) = some (.ref fa) := by
      have e : (HandSHeadRun.topDef (OpenLaw.row PySem.Challenge.rw_turnguard_k21_values).prog 9).name = ("law" : PySem.Str) := by kernel_rfl
      rw [← e]
      exact hmg0
    obtain ⟨fd, F⟩ := c.def_ 6 (d := Lw.df6) rfl
    have e := hmg.symm.trans (He.glo_ok KX G (c.fact 6 (f := .glo "law") rfl))
    cases e
    refine ⟨K, fd, Tg.spF K (Lw.cl PySem.Challenge.rw_turnguard_k21_values.prog w K) 1 [] (Tg.callAt Lw.T 60 6), KX, fun s v => L2.FunD.bindsA (ps := ["_law_script"]) F (fun _ _ _ _ _ _ us hl => match us, hl with | [_], _ => rfl) s [v] rfl, fun H a ns hl _ hS => Tg.law_start (hM ns hl) hS (fun _ z => nomatch (show _ ∈ ([] : List (PySem.Addr × PySem.Str)) from z)), fun base hK hN => ?_⟩
    exact Tg.fn_ok F Lw.sc6 rfl (.inl rfl) (Lw.sb6 (Lw.gx KX G c) (Lw.okAll KX G c base 59) _)


namespace Tg
/-! ## one turn: nothing wrong is told -/
theorem Mc.go_succ (n : Nat) (m : Mc) (ts : List Turn) (hw : m.word = []) : Mc.go (n + 1) m ts = Mc.go n (m.tk ts).1.step (m.tk ts).2 := by
  show (if m.word ≠ [] then _ else _) = _
  rw [if_neg (by simpa using hw)]
theorem Mc.go_end (n : Nat) (m : Mc) (ts : List Turn) (hw : m.word ≠ []) : Mc.go n m ts = m := by
  cases n with
  | zero => rfl
  | succ n =>
    show (if m.word ≠ [] then _ else _) = _
    rw [if_pos hw]
theorem Mc.go_nil (n : Nat) (m : Mc) (hw : m.word = []) : Mc.go (n + 1) m [] = Mc.go n m.step [] := Mc.go_succ n m [] hw
theorem cryW_ne : cryW ≠ [] := by decide
theorem backW_ne : backW ≠ [] := by decide
theorem cry_back : cryW ≠ backW := by decide
/-- what a step does, by its row -/
theorem Mc.step_none {m : Mc} (hw : m.word = []) (h : m.code[m.here]? = none) : m.step = { m with steps := m.steps + 1, word := cryW } := by
  simp [Mc.step, hw, h]
theorem Mc.step_cry {m : Mc} {r : RN} (hw : m.word = []) (h : m.code[m.here]? = some r) (hc : m.cries r = true) : m.step = { m with steps := m.steps + 1, word := cryW } := by
  simp [Mc.step, hw, h, hc]
theorem Mc.step_on {m : Mc} {r : RN} (hw : m.word = []) (h : m.code[m.here]? = some r) (hc : m.cries r = false) : m.step = ({ m with steps := m.steps + 1 } : Mc).goOn r := by
  simp [Mc.step, hw, h, hc]
theorem Mc.goOn_f (m : Mc) (r : RN) (hb : ¬ ∃ i, r = .back i) : (m.goOn r).here = m.onw r ∧ (m.goOn r).tally = (m.tally ^^^ m.here) ^^^ m.onw r ∧ (m.goOn r).code = m.code ∧ (m.goOn r).word = m.word ∧ (m.goOn r).ans = m.ans := by
  cases r with
  | back i => exact absurd ⟨i, rfl⟩ hb
  | _ => exact ⟨rfl, rfl, rfl, rfl, rfl⟩
def Mc.st1 (m : Mc) : Mc := { m with steps := m.steps + 1 }
theorem Mc.outs_pre (m : Mc) : m.outs <+: m.step.outs := by
  by_cases hw : m.word = []
  · cases h : m.code[m.here]? with
    | none => rw [Mc.step_none hw h]; exact List.prefix_refl _
    | some r =>
      cases hc : m.cries r with
      | true => rw [Mc.step_cry hw h hc]; exact List.prefix_refl _
      | false =>
        rw [Mc.step_on hw h hc]
        cases r <;> first | exact List.prefix_refl _ | exact List.prefix_append _ _
  · unfold Mc.step
    rw [if_pos hw]
    exact List.prefix_refl _
theorem Mc.go_pre : ∀ (n : Nat) (m : Mc) (ts : List Turn), m.outs <+: (Mc.go n m ts).outs
  | 0, m, ts => List.prefix_refl _
  | n + 1, m, ts => by
    by_cases hw : m.word = []
    · rw [Mc.go_succ n m ts hw]
      have h1 := (m.tk ts).1.outs_pre
      rw [(m.tk_same ts).1] at h1
      exact h1.trans (Mc.go_pre n _ _)
    · rw [Mc.go_end _ m ts hw]; exact List.prefix_refl _
theorem Mc.step_len (m : Mc) : m.step.outs.length ≤ m.outs.length + 1 := by
  unfold Mc.step
  split
  · omega
  · split
    · exact Nat.le_succ _
    · split
      · exact Nat.le_succ _
      · rename_i r _ _
        cases r <;> simp [Mc.goOn, Mc.done, RN.deed]
theorem Mc.go_len : ∀ (n : Nat) (m : Mc) (ts : List Turn), (Mc.go n m ts).outs.length ≤ m.outs.length + n
  | 0, m, ts => Nat.le_refl _
  | n + 1, m, ts => by
    by_cases hw : m.word = []
    · rw [Mc.go_succ n m ts hw]
      have h1 := (m.tk ts).1.step_len
      rw [(m.tk_same ts).1] at h1
      have h2 := Mc.go_len n (m.tk ts).1.step (m.tk ts).2
      omega
    · rw [Mc.go_end _ m ts hw]; omega
structure SafeR (e e0 : Mc) : Prop where
  pre : e.outs <+: e0.outs
  back : e.word = backW → e0.word = backW ∧ e.outs = e0.outs ∧ e.ans = e0.ans
  none : e.word ≠ backW → e.ans = none
/-- a mark that is off: nothing is sent, nothing answered -/
theorem Mc.off_step {m : Mc} (hw : m.word = []) (ho : m.tally ≠ m.here) : m.step.outs = m.outs ∧ m.step.ans = m.ans ∧ (m.step.word = cryW ∨ (m.step.word = [] ∧ m.step.tally ≠ m.step.here)) := by
  cases h : m.code[m.here]? with
  | none => rw [Mc.step_none hw h]; exact ⟨rfl, rfl, .inl rfl⟩
  | some r =>
    cases hc : m.cries r with
    | true => rw [Mc.step_cry hw h hc]; exact ⟨rfl, rfl, .inl rfl⟩
    | false =>
      rw [Mc.step_on hw h hc]
      have key : ∀ x : Nat, (m.tally ^^^ m.here) ^^^ x ≠ x := fun x e => ho (by
        have e1 : ((m.tally ^^^ m.here) ^^^ x) ^^^ x = x ^^^ x := by rw [e]
        rw [Nat.xor_assoc, Nat.xor_self, Nat.xor_zero] at e1
        have e2 : (m.tally ^^^ m.here) ^^^ m.here = 0 ^^^ m.here := by rw [e1]
        rw [Nat.xor_assoc, Nat.xor_self, Nat.xor_zero, Nat.zero_xor] at e2
        exact e2)
      have hne : (m.tally != m.here) = true := by simpa using ho
      cases r with
      | mark q => simp [Mc.cries, hne] at hc
      | out i q => simp [Mc.cries, hne] at hc
      | back i => simp [Mc.cries, hne] at hc
      | _ => exact ⟨rfl, rfl, .inr ⟨hw, key _⟩⟩
theorem Mc.off_go : ∀ (n : Nat) (m : Mc), m.word = [] → m.tally ≠ m.here → (Mc.go n m []).outs = m.outs ∧ (Mc.go n m []).ans = m.ans ∧ (Mc.go n m []).word ≠ backW
  | 0, m, hw, ho => ⟨rfl, rfl, by show m.word ≠ backW; rw [hw]; exact fun e => backW_ne e.symm⟩
  | n + 1, m, hw, ho => by
    obtain ⟨h1, h2, h3⟩ := Mc.off_step hw ho
    rw [Mc.go_nil n m hw]
    rcases h3 with h3 | ⟨h3, h4⟩
    · rw [Mc.go_end n m.step [] (by rw [h3]; exact cryW_ne)]
      exact ⟨h1, h2, by rw [h3]; exact cry_back⟩
    · obtain ⟨g1, g2, g3⟩ := Mc.off_go n m.step h3 h4
      exact ⟨g1.trans h1, g2.trans h2, g3⟩
/-- alike but for one side -/
structure Mate (m0 m : Mc) : Prop where
  code : m.code = m0.code
  here : m.here = m0.here
  tally : m.tally = m0.tally
  outs : m.outs = m0.outs
  w0 : m0.word = []
  w : m.word = []
  side : m.a = m0.a ∨ m.b = m0.b
theorem Mate.go : ∀ (n : Nat) (m0 m : Mc), Mate m0 m → m.ans = none → (Mc.go n m0 []).word ≠ cryW → SafeR (Mc.go n m []) (Mc.go n m0 [])
  | 0, m0, m, M, ha, _ => ⟨by show m.outs <+: m0.outs; rw [M.outs]; exact List.prefix_refl _, fun h => by
      have : m.word = backW := h
      rw [M.w] at this
      exact absurd this.symm backW_ne, fun _ => ha⟩
  | n + 1, m0, m, M, ha, hc0 => by
    rw [Mc.go_nil n m0 M.w0] at hc0 ⊢
    rw [Mc.go_nil n m M.w]
    have cryEnd : m.step.word = cryW → m.step.outs = m.outs → m.step.ans = m.ans → SafeR (Mc.go n m.step []) (Mc.go n m0.step []) := fun h1 h2 h3 => by
      rw [Mc.go_end n m.step [] (by rw [h1]; exact cryW_ne)]
      refine ⟨?_, fun h => absurd (h1.symm.trans h) cry_back, fun _ => by rw [h3]; exact ha⟩
      rw [h2, M.outs]
      exact m0.outs_pre.trans (Mc.go_pre n _ _)
    cases h : m0.code[m0.here]? with
    | none =>
      exfalso
      refine hc0 ?_
      rw [Mc.step_none M.w0 h, Mc.go_end n _ [] cryW_ne]
    | some r =>
      have hm : m.code[m.here]? = some r := by rw [M.code, M.here]; exact h
      cases hcc0 : m0.cries r with
      | true =>
        exfalso
        refine hc0 ?_
        rw [Mc.step_cry M.w0 h hcc0, Mc.go_end n _ [] cryW_ne]
      | false =>
        cases hcc : m.cries r with
        | true =>
          have e := Mc.step_cry M.w hm hcc
          exact cryEnd (by rw [e]) (by rw [e]) (by rw [e])
        | false =>
          have e0 := Mc.step_on M.w0 h hcc0
          have e := Mc.step_on M.w hm hcc
          by_cases hb : ∃ i, r = .back i
          · obtain ⟨i, rfl⟩ := hb
            have s0 : m0.step.word = backW := by rw [e0]; rfl
            have s1 : m.step.word = backW := by rw [e]; rfl
            rw [Mc.go_end n m.step [] (by rw [s1]; exact backW_ne), Mc.go_end n m0.step [] (by rw [s0]; exact backW_ne)]
            have c0 : bAt m0.a i = bAt m0.b i := by
              simp [Mc.cries] at hcc0; exact hcc0.1
            have c1 : bAt m.a i = bAt m.b i := by
              simp [Mc.cries] at hcc; exact hcc.1
            have hval : bAt m.a i = bAt m0.a i := by
              rcases M.side with z | z
              · rw [z]
              · rw [c1, z, ← c0]
            refine ⟨?_, fun _ => ⟨s0, ?_, ?_⟩, fun h => absurd s1 h⟩
            · rw [e, e0]; show m.outs <+: m0.outs; rw [M.outs]; exact List.prefix_refl _
            · rw [e, e0]; exact M.outs
            · rw [e, e0]; show some (bAt m.a i) = some (bAt m0.a i); rw [hval]
          · have val : ∀ i, bAt m.a i = bAt m.b i → bAt m0.a i = bAt m0.b i → bAt m.a i = bAt m0.a i := fun i c1 c0 => by
              rcases M.side with z | z
              · rw [z]
              · rw [c1, z, ← c0]
            have w0 : m0.step.word = [] := by
              rw [e0]
              cases r with
              | back i => exact absurd ⟨i, rfl⟩ hb
              | _ => exact M.w0
            have w1 : m.step.word = [] := by
              rw [e]
              cases r with
              | back i => exact absurd ⟨i, rfl⟩ hb
              | _ => exact M.w
            have an : m.step.ans = none := by
              rw [e]
              cases r with
              | back i => exact absurd ⟨i, rfl⟩ hb
              | _ => exact ha
            have ho : m.step.outs = m0.step.outs := by
              rw [e, e0]
              cases r with
              | back i => exact absurd ⟨i, rfl⟩ hb
              | out i q =>
                simp [Mc.cries] at hcc hcc0
                show m.outs ++ [bAt m.a i] = m0.outs ++ [bAt m0.a i]
                rw [M.outs, val i hcc.1 hcc0.1]
              | _ => exact M.outs
            have hon : m.onw r = m0.onw r := by
              cases r with
              | fork i q p =>
                have f0 : bAt m0.a i = 0 ↔ bAt m0.b i = 0 := by
                  by_cases x : bAt m0.a i = 0 <;> by_cases y : bAt m0.b i = 0 <;> simp [Mc.cries, x, y] at hcc0 ⊢
                have f1 : bAt m.a i = 0 ↔ bAt m.b i = 0 := by
                  by_cases x : bAt m.a i = 0 <;> by_cases y : bAt m.b i = 0 <;> simp [Mc.cries, x, y] at hcc ⊢
                have this : bAt m.a i = 0 ↔ bAt m0.a i = 0 := by
                  rcases M.side with z | z
                  · rw [z]
                  · rw [f1, z, ← f0]
                show (if bAt m.a i ≠ 0 then q else p) = (if bAt m0.a i ≠ 0 then q else p)
                by_cases z : bAt m0.a i = 0
                · rw [if_neg (fun h => h (this.mpr z)), if_neg (fun h => h z)]
                · rw [if_pos (fun h => z (this.mp h)), if_pos z]
              | back i => rfl
              | _ => rfl
            have hh : m.step.here = m0.step.here ∧ m.step.tally = m0.step.tally ∧ m.step.code = m0.step.code := by
              rw [e, e0]
              obtain ⟨x1, x2, x3, _, _⟩ := Mc.goOn_f ({ m with steps := m.steps + 1 } : Mc) r hb
              obtain ⟨y1, y2, y3, _, _⟩ := Mc.goOn_f ({ m0 with steps := m0.steps + 1 } : Mc) r hb
              have o1 : ({ m with steps := m.steps + 1 } : Mc).onw r = m.onw r := by cases r <;> rfl
              have o0 : ({ m0 with steps := m0.steps + 1 } : Mc).onw r = m0.onw r := by cases r <;> rfl
              refine ⟨?_, ?_, ?_⟩
              · rw [x1, y1, o1, o0, hon]
              · rw [x2, y2, o1, o0, hon]
                show (m.tally ^^^ m.here) ^^^ _ = (m0.tally ^^^ m0.here) ^^^ _
                rw [M.tally, M.here]
              · rw [x3, y3]; exact M.code
            have hs : m.step.a = m0.step.a ∨ m.step.b = m0.step.b := by
              rw [e, e0]
              rcases M.side with z | z
              · left
                cases r with
                | back i => exact absurd ⟨i, rfl⟩ hb
                | num d k n q => show (if _ then doDeed m.a _ else m.a) = (if _ then doDeed m0.a _ else m0.a); rw [z]
                | copy d k n q => show (if _ then doDeed m.a _ else m.a) = (if _ then doDeed m0.a _ else m0.a); rw [z]
                | op d s k n j q => show (if _ then doDeed m.a _ else m.a) = (if _ then doDeed m0.a _ else m0.a); rw [z]
                | _ => exact z
              · right
                cases r with
                | back i => exact absurd ⟨i, rfl⟩ hb
                | num d k n q => show (if _ then doDeed m.b _ else m.b) = (if _ then doDeed m0.b _ else m0.b); rw [z]
                | copy d k n q => show (if _ then doDeed m.b _ else m.b) = (if _ then doDeed m0.b _ else m0.b); rw [z]
                | op d s k n j q => show (if _ then doDeed m.b _ else m.b) = (if _ then doDeed m0.b _ else m0.b); rw [z]
                | _ => exact z
            exact Mate.go n m0.step m.step ⟨hh.2.2, hh.1, hh.2.1, ho, w0, w1, hs⟩ an hc0
theorem Mc.sync_step {m : Mc} (hw : m.word = []) (h : m.tally = m.here) (hw2 : m.step.word = []) : m.step.tally = m.step.here := by
  cases e : m.code[m.here]? with
  | none => rw [Mc.step_none hw e] at hw2; exact absurd hw2 cryW_ne
  | some r =>
    cases hc : m.cries r with
    | true => rw [Mc.step_cry hw e hc] at hw2; exact absurd hw2 cryW_ne
    | false =>
      rw [Mc.step_on hw e hc] at hw2 ⊢
      cases r with
      | back i => exact absurd hw2 backW_ne
      | _ =>
        show (m.tally ^^^ m.here) ^^^ _ = _
        rw [h, Nat.xor_self, Nat.zero_xor]
        rfl
theorem Mc.ans_step {m : Mc} (hw : m.word = []) (h : m.ans = none) (hw2 : m.step.word ≠ backW) : m.step.ans = none := by
  cases e : m.code[m.here]? with
  | none => rw [Mc.step_none hw e]; exact h
  | some r =>
    cases hc : m.cries r with
    | true => rw [Mc.step_cry hw e hc]; exact h
    | false =>
      rw [Mc.step_on hw e hc] at hw2 ⊢
      cases r with
      | back i => exact absurd rfl hw2
      | _ => exact h
theorem pow_ne (b : Nat) : (2 : Nat) ^ b ≠ 0 := Nat.ne_of_gt (Nat.two_pow_pos b)
theorem xor_ne (x b : Nat) : x ^^^ 2 ^ b ≠ x := fun e => pow_ne b (by
  have e1 : x ^^^ (x ^^^ 2 ^ b) = x ^^^ x := by rw [e]
  rwa [← Nat.xor_assoc, Nat.xor_self, Nat.zero_xor] at e1)
theorem one_turn (s : Nat) (w : What) : ∀ (n : Nat) (m : Mc), m.word = [] → m.tally = m.here → m.ans = none → (Mc.go n m []).word ≠ cryW → SafeR (Mc.go n m [(s, w)]) (Mc.go n m [])
  | 0, m, hw, hs, ha, _ => ⟨List.prefix_refl _, fun h => ⟨h, rfl, rfl⟩, fun _ => ha⟩
  | n + 1, m, hw, hs, ha, hc => by
    by_cases he : s = m.steps
    · have htk : m.tk [(s, w)] = (m.turn w, []) := by simp [Mc.tk, he]
      rw [Mc.go_succ n m [(s, w)] hw, htk]
      have hws := m.turn_same w
      have hgo : Mc.go n (m.turn w).step [] = Mc.go (n + 1) (m.turn w) [] := (Mc.go_nil n _ (by rw [hws.2.2.1]; exact hw)).symm
      show SafeR (Mc.go n (m.turn w).step []) _
      rw [hgo]
      cases w with
      | box sd k b =>
        refine Mate.go (n + 1) m (m.turn (.box sd k b)) ⟨hws.2.2.2.1, ?_, ?_, hws.1, hw, by rw [hws.2.2.1]; exact hw, ?_⟩ (by rw [hws.2.2.2.2]; exact ha) hc
        · simp only [Mc.turn]; split <;> first | rfl | (show Mc.here (if _ then _ else _) = _; split <;> rfl)
        · simp only [Mc.turn]; split <;> first | rfl | (show Mc.tally (if _ then _ else _) = _; split <;> rfl)
        · by_cases h0 : sd = 0
          · right; simp [Mc.turn, hw, h0]
          · left; simp [Mc.turn, hw, h0]
      | mark b =>
        have ho : (m.turn (.mark b)).tally ≠ (m.turn (.mark b)).here := by
          simp only [Mc.turn, hw]
          rw [if_neg (by simp)]
          show m.tally ^^^ 2 ^ b ≠ m.here
          rw [hs]
          exact xor_ne _ _
        obtain ⟨g1, g2, g3⟩ := Mc.off_go (n + 1) _ (by rw [hws.2.2.1]; exact hw) ho
        refine ⟨?_, fun h => absurd h g3, fun _ => by rw [g2, hws.2.2.2.2]; exact ha⟩
        rw [g1, hws.1]
        exact Mc.go_pre _ _ _
      | place b =>
        have ho : (m.turn (.place b)).tally ≠ (m.turn (.place b)).here := by
          simp only [Mc.turn, hw]
          rw [if_neg (by simp)]
          show m.tally ≠ m.here ^^^ 2 ^ b
          rw [hs]
          exact fun e => xor_ne _ _ e.symm
        obtain ⟨g1, g2, g3⟩ := Mc.off_go (n + 1) _ (by rw [hws.2.2.1]; exact hw) ho
        refine ⟨?_, fun h => absurd h g3, fun _ => by rw [g2, hws.2.2.2.2]; exact ha⟩
        rw [g1, hws.1]
        exact Mc.go_pre _ _ _
    · have htk : m.tk [(s, w)] = (m, [(s, w)]) := by simp [Mc.tk, he]
      rw [Mc.go_succ n m [(s, w)] hw, htk]
      rw [Mc.go_nil n m hw] at hc ⊢
      by_cases hw2 : m.step.word = []
      · exact one_turn s w n m.step hw2 (Mc.sync_step hw hs hw2) (Mc.ans_step hw ha (by rw [hw2]; exact fun e => backW_ne e.symm)) hc
      · show SafeR (Mc.go n m.step [(s, w)]) (Mc.go n m.step [])
        rw [Mc.go_end n m.step _ hw2, Mc.go_end n m.step _ hw2]
        refine ⟨List.prefix_refl _, fun h => ⟨h, rfl, rfl⟩, fun h => Mc.ans_step hw ha h⟩
end Tg

namespace Lw
open Tg
--@ value
theorem log_small {n : Nat} (h : n < top48) : (n : Int).natAbs.log2 < 9000 := by
  show n.log2 < 9000
  by_cases h0 : n = 0
  · subst h0; decide
  · have : n.log2 < 48 := (Nat.log2_lt h0).mpr (by rw [top48_pow] at h; exact h)
    omega
theorem value_ev (k s a b : Nat) (ha : a < top48) (hb : b < top48) : callAt T (k + 1) j_value [.str [s], .int a, .int b] = some (.int (valN s a b : Nat), []) := by
  rw [e_value, u_value]
  unfold valN
  unfold top48 at *
  have hm : gMul (.int a) (.int b) = some (.int ((a : Int) * b)) := gMul_l (by omega) (by omega)
  by_cases h1 : s = 43
  · subst h1; simp -implicitDefEqProofs
  · by_cases h2 : s = 45
    · subst h2
      simp -implicitDefEqProofs
      have e : ((a : Int) - b) % 281474976710656 = ((a + (281474976710656 - b)) % 281474976710656 : Nat) := by omega
      simpa using e
    · by_cases h3 : s = 42
      · subst h3; simp -implicitDefEqProofs [hm]
      · by_cases h4 : s = 47
        · subst h4
          by_cases h0 : b = 0
          · subst h0; simp -implicitDefEqProofs
          · have hb0 : 0 < b := by omega
            have hl := log_small (n := b) (by unfold top48; exact hb)
            have hg : gDiv (.int a) (.int b) = some (.int ((a : Int) / b)) := gDiv_ii (by omega) (.inr hl)
            simp -implicitDefEqProofs [-gDiv_if, h0, hg]
        · by_cases h5 : s = 60
          · subst h5
            by_cases hlt : a < b <;> simp -implicitDefEqProofs [hlt]
          · by_cases h6 : s = 61
            · subst h6
              by_cases he : a = b
              · subst he; simp -implicitDefEqProofs
              · have he' : ¬ (a : Int) = b := by omega
                simp -implicitDefEqProofs [he, he']
            · by_cases h7 : s = 38
              · subst h7
                simp -implicitDefEqProofs
                rfl
              · by_cases h8 : s = 124
                · subst h8; simp -implicitDefEqProofs
                · have n1 : (s == 43) = false := by simpa using h1
                  have n2 : (s == 45) = false := by simpa using h2
                  have n3 : (s == 42) = false := by simpa using h3
                  have n4 : (s == 47) = false := by simpa using h4
                  have n5 : (s == 60) = false := by simpa using h5
                  have n6 : (s == 61) = false := by simpa using h6
                  have n7 : (s == 38) = false := by simpa using h7
                  have n8 : (s == 124) = false := by simpa using h8
                  simp -implicitDefEqProofs [h1, h2, h3, h4, h5, h6, h7, h8, n1, n2, n3, n4, n5, n6, n7, n8]
end Lw

namespace Tg
/-! ## programs -/
abbrev Nm := List Nat
inductive St
  | num (a : Nm) (v : Nat)
  | copy (a b : Nm)
  | op (a : Nm) (s : Nat) (b c : Nm)
  | out (a : Nm)
  | ite (a : Nm) (y n : List St)
  | whl (a : Nm) (b : List St)
abbrev ifW : Nm := [105, 102]
abbrev whileW : Nm := [119, 104, 105, 108, 101]
def wordsL : List Nm := [[105, 110], [111, 117, 116], [98, 97, 99, 107], ifW, [101, 108, 115, 101], whileW]
mutual
def St.d : St → D
  | .num a v => .tup [.str [110, 117, 109], .str a, .int v]
  | .copy a b => .tup [.str [99, 111, 112, 121], .str a, .str b]
  | .op a s b c => .tup [.str [111, 112], .str a, .str [s], .str b, .str c]
  | .out a => .tup [.str [111, 117, 116], .str a]
  | .ite a y n => .tup [.str ifW, .str a, .tup (St.ds y), .tup (St.ds n)]
  | .whl a b => .tup [.str whileW, .str a, .tup (St.ds b)]
def St.ds : List St → List D
  | [] => []
  | s :: r => s.d :: St.ds r
end
theorem St.ds_map : ∀ l : List St, St.ds l = l.map St.d
  | [] => rfl
  | s :: r => by show s.d :: St.ds r = _; rw [St.ds_map r]; rfl
theorem St.ds_len (l : List St) : (St.ds l).length = l.length := by rw [St.ds_map, List.length_map]
theorem St.ds_app (a b : List St) : St.ds (a ++ b) = St.ds a ++ St.ds b := by rw [St.ds_map, St.ds_map, St.ds_map, List.map_append]
mutual
@[simp] theorem St.d_sh : ∀ s : St, s.d.sh = true
  | .num _ _ => rfl
  | .copy _ _ => rfl
  | .op _ _ _ _ => rfl
  | .out _ => rfl
  | .ite a y n => by
    show (true && (true && (D.shs (St.ds y) && (D.shs (St.ds n) && true)))) = true
    rw [St.ds_sh y, St.ds_sh n]; rfl
  | .whl a b => by
    show (true && (true && (D.shs (St.ds b) && true))) = true
    rw [St.ds_sh b]; rfl
@[simp] theorem St.ds_sh : ∀ l : List St, D.shs (St.ds l) = true
  | [] => rfl
  | s :: r => by show (s.d.sh && D.shs (St.ds r)) = true; rw [St.d_sh s, St.ds_sh r]; rfl
end
@[simp] theorem St.d_fz (s : St) : s.d.fz = s.d := D.fz_sh _ s.d_sh
@[simp] theorem St.ds_fz (l : List St) : D.fzs (St.ds l) = St.ds l := D.fzs_sh _ (St.ds_sh l)
mutual
@[simp] theorem St.d_nf : ∀ s : St, s.d.nf = true
  | .num _ _ => rfl
  | .copy _ _ => rfl
  | .op _ _ _ _ => rfl
  | .out _ => rfl
  | .ite a y n => by
    show (true && (true && (D.nfs (St.ds y) && (D.nfs (St.ds n) && true)))) = true
    rw [St.ds_nf y, St.ds_nf n]; rfl
  | .whl a b => by
    show (true && (true && (D.nfs (St.ds b) && true))) = true
    rw [St.ds_nf b]; rfl
@[simp] theorem St.ds_nf : ∀ l : List St, D.nfs (St.ds l) = true
  | [] => rfl
  | s :: r => by show (s.d.nf && D.nfs (St.ds r)) = true; rw [St.d_nf s, St.ds_nf r]; rfl
end
/-- a name: one to eight small letters, none of the six words -/
def nmOk (x : Nm) : Prop := 1 ≤ x.length ∧ x.length ≤ 8 ∧ (∀ c ∈ x, 97 ≤ c ∧ c ≤ 122) ∧ x ∉ wordsL
def sgnL : List Nat := [43, 45, 42, 47, 60, 61, 38, 124, 94]
mutual
def St.ok : St → Prop
  | .num a v => nmOk a ∧ v < top48
  | .copy a b => nmOk a ∧ nmOk b
  | .op a s b c => nmOk a ∧ s ∈ sgnL ∧ nmOk b ∧ nmOk c
  | .out a => nmOk a
  | .ite a y n => nmOk a ∧ St.oks y ∧ St.oks n
  | .whl a b => nmOk a ∧ St.oks b
def St.oks : List St → Prop
  | [] => True
  | s :: r => s.ok ∧ St.oks r
end
theorem St.oks_app : ∀ (a b : List St), St.oks (a ++ b) ↔ St.oks a ∧ St.oks b
  | [], b => by simp [St.oks]
  | s :: a, b => by
    show s.ok ∧ St.oks (a ++ b) ↔ (s.ok ∧ St.oks a) ∧ St.oks b
    rw [St.oks_app a b, and_assoc]
mutual
def St.size : St → Nat
  | .ite _ y n => 1 + St.sizes y + St.sizes n
  | .whl _ b => 1 + St.sizes b
  | _ => 1
def St.sizes : List St → Nat
  | [] => 0
  | s :: r => s.size + St.sizes r
end
theorem St.sizes_app : ∀ (a b : List St), St.sizes (a ++ b) = St.sizes a + St.sizes b
  | [], b => by simp [St.sizes]
  | s :: a, b => by
    show s.size + St.sizes (a ++ b) = s.size + St.sizes a + St.sizes b
    rw [St.sizes_app a b]; omega
theorem St.size_pos (s : St) : 1 ≤ s.size := by cases s <;> simp [St.size] <;> omega
theorem St.len_sizes : ∀ l : List St, l.length ≤ St.sizes l
  | [] => Nat.le_refl _
  | s :: r => by
    show r.length + 1 ≤ s.size + St.sizes r
    have := St.len_sizes r
    have := s.size_pos
    omega
mutual
def St.dep : Nat → St → Prop
  | 0, .ite _ _ _ => False
  | 0, .whl _ _ => False
  | n + 1, .ite _ y m => St.deps n y ∧ St.deps n m
  | n + 1, .whl _ b => St.deps n b
  | _, _ => True
def St.deps : Nat → List St → Prop
  | _, [] => True
  | n, s :: r => St.dep n s ∧ St.deps n r
end
end Tg

namespace Lw
open Tg
--@ _law_cell
theorem and_low (x : Int) : ∃ c : Nat, c < 18446744073709551616 ∧ gAndI (.int x) (.int 18446744073709551615) = some (.int (c : Int)) := by
  rw [gAndI_ii]
  unfold PySem.Builtin.bitAnd
  by_cases h : 0 ≤ x
  · rw [decide_eq_true h]
    exact ⟨x.toNat &&& 18446744073709551615, Nat.lt_succ_of_le Nat.and_le_right, rfl⟩
  · rw [decide_eq_false h]
    have hle : (18446744073709551615 &&& (PySem.Builtin.bitNot x).toNat) ≤ 18446744073709551615 := Nat.and_le_left
    refine ⟨18446744073709551615 - (18446744073709551615 &&& (PySem.Builtin.bitNot x).toNat), by omega, ?_⟩
    show some (Tg.D.int (18446744073709551615 - ((18446744073709551615 &&& (PySem.Builtin.bitNot x).toNat : Nat) : Int))) = _
    generalize 18446744073709551615 &&& (PySem.Builtin.bitNot x).toNat = w at *
    congr 2
    omega
/-- the script, or a list of numbers -/
structure IsS (d : Tg.D) (ns : List Int) : Prop where
  sh : d.sh = true
  fz : d.fz = d
  var : varD (some d) = some d
  len : gLen d = some (.int ns.length)
  ix : ∀ i, gIx d (.int i) = (atD ns i).map .int
  cut : ∀ lo hi, gCut lo hi d = some (.lst true ((cutD ns lo hi).map .int))
theorem isS_scr (ns : List Int) : IsS (.scr ns) ns := ⟨rfl, rfl, rfl, rfl, fun _ => rfl, fun _ _ => rfl⟩
theorem atD_map {α β : Type} (f : α → β) (xs : List α) (i : Int) : atD (xs.map f) i = (atD xs i).map f := by
  unfold atD
  rw [List.length_map]
  cases ixD xs.length i with
  | none => rfl
  | some j => show (xs.map f)[j]? = (xs[j]?).map f; rw [List.getElem?_map]
theorem cutD_map {α β : Type} (f : α → β) (xs : List α) (lo hi : Option Int) : cutD (xs.map f) lo hi = (cutD xs lo hi).map f := by
  unfold cutD
  rw [List.length_map, List.map_take, List.map_drop]
theorem isS_lst (ns : List Int) : IsS (.lst false (ns.map .int)) ns := ⟨rfl, rfl, rfl, by simp, fun i => atD_map _ ns i, fun lo hi => by
  show (if D.shs (ns.map .int) then some (Tg.D.lst true (cutD (ns.map .int) lo hi)) else none) = _
  rw [shs_ints, if_pos rfl, cutD_map]⟩
theorem cellD_ev (k : Nat) {d : Tg.D} {ns : List Int} (S : IsS d ns) (i : Nat) (hns : ns.length ≤ 63) (hi : i < 1000) : ∃ c : Nat, c < 18446744073709551616 ∧ callAt T (k + 1) j_law_cell [d, .int i] = some (.int c, []) := by
  have s1 := S.sh
  have s2 := S.fz
  have s3 := S.var
  have s4 := S.len
  have s5 := S.ix
  rw [e_law_cell, u_law_cell]
  have g1 : gMul (.int 7919) (.int i) = some (.int (7919 * (i : Int))) := gMul_l (by omega) (by omega)
  have fin : ∀ x : Int, ∃ c : Nat, c < 18446744073709551616 ∧ ∃ y z : Int, gMul (.int (x % 2147483647)) (.int (x % 2147483647)) = some (.int y) ∧ gMul (.int (y % 2147483629)) (.int 69621) = some (.int z) ∧ gMul (.int (z + 16807)) (.int (z + 16807)) = some (.int ((z + 16807) * (z + 16807))) ∧ (z + 16807) * (z + 16807) % 2147483587 = (c : Int) := fun x => by
    have a := Int.emod_nonneg x (show (2147483647 : Int) ≠ 0 by omega)
    have b := Int.emod_lt_of_pos x (show (0 : Int) < 2147483647 by omega)
    have a2 := Int.emod_nonneg (x % 2147483647 * (x % 2147483647)) (show (2147483629 : Int) ≠ 0 by omega)
    have b2 := Int.emod_lt_of_pos (x % 2147483647 * (x % 2147483647)) (show (0 : Int) < 2147483629 by omega)
    have a3 := Int.emod_nonneg ((x % 2147483647 * (x % 2147483647) % 2147483629 * 69621 + 16807) * (x % 2147483647 * (x % 2147483647) % 2147483629 * 69621 + 16807)) (show (2147483587 : Int) ≠ 0 by omega)
    have b3 := Int.emod_lt_of_pos ((x % 2147483647 * (x % 2147483647) % 2147483629 * 69621 + 16807) * (x % 2147483647 * (x % 2147483647) % 2147483629 * 69621 + 16807)) (show (0 : Int) < 2147483587 by omega)
    exact ⟨((x % 2147483647 * (x % 2147483647) % 2147483629 * 69621 + 16807) * (x % 2147483647 * (x % 2147483647) % 2147483629 * 69621 + 16807) % 2147483587).toNat, by omega, _, _, gMul_l (by omega) (by omega), gMul_r (by omega) (by omega), gMul_l (by omega) (by omega), by omega⟩
  by_cases h0 : ns.length = 0
  · have : ns = [] := List.length_eq_zero_iff.mp h0
    subst this
    obtain ⟨c, hc, y, z, q1, q2, q3, q4⟩ := fin (7919 * (i : Int) + 5)
    refine ⟨c, hc, ?_⟩
    simp -implicitDefEqProofs [s1, s2, s3, s4, s5, g1, q1, q2, q3, q4]
  · have hp : 0 < ns.length := by omega
    have hpi : (0 : Int) < ns.length := by omega
    have at0 : atD ns 0 = some ns[0] := by
      rw [show (0 : Int) = ((0 : Nat) : Int) from rfl, atD_nat hp]
    by_cases h1 : ns[0] % 2 = 1
    · have hlt : i / 2 % ns.length < ns.length := Nat.mod_lt _ hp
      have at1 : atD ns ((i : Int) / 2 % (ns.length : Int)) = some ns[i / 2 % ns.length] := by
        rw [show (i : Int) / 2 % (ns.length : Int) = ((i / 2 % ns.length : Nat) : Int) by rw [Int.natCast_emod, Int.natCast_ediv]; rfl, atD_nat hlt]
      have g2 : gMul (.int 64) (.int ((i : Int) % 2)) = some (.int (64 * ((i : Int) % 2))) := gMul_l (by omega) (by omega)
      have p1 : (0 : Int) ≤ 1 + 64 * ((i : Int) % 2) := by omega
      generalize ns[i / 2 % ns.length] = x at *
      obtain ⟨c, hc, hand⟩ := and_low (x / 2 ^ (1 + 64 * ((i : Int) % 2)).toNat)
      refine ⟨c, hc, ?_⟩
      simp -implicitDefEqProofs [s1, s2, s3, s4, s5, hp, hpi, at0, h1, at1, g2, p1, hand]
    · have hlt : i % ns.length < ns.length := Nat.mod_lt _ hp
      have at1 : atD ns ((i : Int) % (ns.length : Int)) = some ns[i % ns.length] := by
        rw [show (i : Int) % (ns.length : Int) = ((i % ns.length : Nat) : Int) by rw [Int.natCast_emod], atD_nat hlt]
      generalize ns[i % ns.length] = x at *
      have g2 : gMul (.int x) (.int 48271) = some (.int (x * 48271)) := gMul_r (by omega) (by omega)
      obtain ⟨c, hc, y, z, q1, q2, q3, q4⟩ := fin (x * 48271 + 7919 * (i : Int))
      refine ⟨c, hc, ?_⟩
      simp -implicitDefEqProofs [s1, s2, s3, s4, s5, hp, hpi, at0, h1, at1, g1, g2, q1, q2, q3, q4]
theorem cell_ev (k : Nat) (ns : List Int) (i : Nat) (hns : ns.length ≤ 63) (hi : i < 1000) : ∃ c : Nat, c < 18446744073709551616 ∧ callAt T (k + 1) j_law_cell [.scr ns, .int i] = some (.int c, []) := cellD_ev k (isS_scr ns) i hns hi
--@ _law_names
theorem letter_at (i : Nat) (h : i < 26) : atD [97, 98, 99, 100, 101, 102, 103, 104, 105, 106, 107, 108, 109, 110, 111, 112, 113, 114, 115, 116, 117, 118, 119, 120, 121, 122] (i : Int) = some (97 + i) := by
  rw [atD_nat (by simpa using h)]
  have : ∀ j : Fin 26, [97, 98, 99, 100, 101, 102, 103, 104, 105, 106, 107, 108, 109, 110, 111, 112, 113, 114, 115, 116, 117, 118, 119, 120, 121, 122][j.val]'(by simpa using j.isLt) = 97 + j.val := by decide
  rw [this ⟨i, h⟩]
end Lw

namespace Tg
@[simp] theorem eListZip_ev (f g : EE) (env : Env) : eListZip f g env = (f env).bind fun d => (g env).bind fun e => match d, e with
  | .lst _ xs, .lst _ ys => if D.shs xs && D.shs ys then some (.lst true (List.zipWith (fun x y => .tup [x, y]) xs ys)) else none
  | _, _ => none := (rfl)
@[simp] theorem eRevL1_ev (f : EE) (env : Env) : eRevL1 f env = (f env).bind fun d => match d with
  | .lst _ xs => if D.shs xs then some (.lst true xs.reverse) else none
  | _ => none := (rfl)
/-- the bits of a number, the least first -/
def bitsN : Nat → Nat → List Nat
  | 0, _ => []
  | m + 1, n => n % 2 :: bitsN m (n / 2)
theorem bitsN_len : ∀ m n, (bitsN m n).length = m
  | 0, _ => rfl
  | m + 1, n => by show (bitsN m (n / 2)).length + 1 = m + 1; rw [bitsN_len m]
theorem bitsN_lt : ∀ m n, ∀ b ∈ bitsN m n, b < 2
  | 0, _, b, h => nomatch h
  | m + 1, n, b, h => by
    rcases List.mem_cons.mp h with rfl | h
    · omega
    · exact bitsN_lt m (n / 2) b h
def putB (f : Nat → Nat → Nat) (l : List (Nat × Nat)) : Nat := l.foldr (fun p z => 2 * z + f p.1 p.2) 0
def bitOf (s a b : Nat) : Nat := if s = 124 then a + b - a * b else if s = 94 then (a + b) % 2 else a * b
theorem putB_is {g f : Nat → Nat → Nat} (h0 : ∀ x y, g x y % 2 = f (x % 2) (y % 2)) (h1 : ∀ x y, g x y / 2 = g (x / 2) (y / 2)) (hz : g 0 0 = 0) : ∀ m x y, x < 2 ^ m → y < 2 ^ m → putB f ((bitsN m x).zip (bitsN m y)) = g x y
  | 0, x, y, hx, hy => by
    have : x = 0 := by simpa using hx
    have : y = 0 := by simpa using hy
    subst x; subst y
    exact hz.symm
  | m + 1, x, y, hx, hy => by
    have ih := putB_is h0 h1 hz m (x / 2) (y / 2) (by rw [Nat.pow_succ] at hx; omega) (by rw [Nat.pow_succ] at hy; omega)
    show 2 * putB f ((bitsN m (x / 2)).zip (bitsN m (y / 2))) + f (x % 2) (y % 2) = g x y
    rw [ih, ← h0, ← h1]
    omega
theorem bit_and (a b : Nat) (ha : a < 2) (hb : b < 2) : a &&& b = bitOf 38 a b := by
  have h1 : a = 0 ∨ a = 1 := by omega
  have h2 : b = 0 ∨ b = 1 := by omega
  rcases h1 with rfl | rfl <;> rcases h2 with rfl | rfl <;> rfl
theorem bit_or (a b : Nat) (ha : a < 2) (hb : b < 2) : a ||| b = bitOf 124 a b := by
  have h1 : a = 0 ∨ a = 1 := by omega
  have h2 : b = 0 ∨ b = 1 := by omega
  rcases h1 with rfl | rfl <;> rcases h2 with rfl | rfl <;> rfl
theorem bit_xor (a b : Nat) (ha : a < 2) (hb : b < 2) : a ^^^ b = bitOf 94 a b := by
  have h1 : a = 0 ∨ a = 1 := by omega
  have h2 : b = 0 ∨ b = 1 := by omega
  rcases h1 with rfl | rfl <;> rcases h2 with rfl | rfl <;> rfl
theorem putB_val {s : Nat} (hs : s = 38 ∨ s = 124 ∨ s = 94) {a b : Nat} (ha : a < top48) (hb : b < top48) : putB (bitOf s) ((bitsN 48 a).zip (bitsN 48 b)) = valN s a b := by
  rw [top48_pow] at ha hb
  have m2 : ∀ x : Nat, x % 2 < 2 := fun x => Nat.mod_lt _ (by decide)
  rcases hs with rfl | rfl | rfl
  · rw [putB_is (g := fun x y => x &&& y) (fun x y => by rw [← bit_and _ _ (m2 x) (m2 y)]; exact Nat.and_mod_two_pow (n := 1)) (fun x y => Nat.and_div_two) rfl 48 a b ha hb]; rfl
  · rw [putB_is (g := fun x y => x ||| y) (fun x y => by rw [← bit_or _ _ (m2 x) (m2 y)]; exact Nat.or_mod_two_pow (n := 1)) (fun x y => Nat.or_div_two) rfl 48 a b ha hb]; rfl
  · rw [putB_is (g := fun x y => x ^^^ y) (fun x y => by rw [← bit_xor _ _ (m2 x) (m2 y)]; exact Nat.xor_mod_two_pow (n := 1)) (fun x y => Nat.xor_div_two) rfl 48 a b ha hb]; rfl
end Tg
namespace Lw
open Tg
/-- _law_drawn -/
theorem drawn_ev (k c o : Nat) (hc : c < 18446744073709551616) (ho : o < top48) : ∃ v : Nat, v < top48 ∧ callAt T (k + 1) j_law_drawn [.int c, .int o] = some (.int v, []) := by
  rw [e_law_drawn, u_law_drawn]
  have h48 : top48 = 281474976710656 := rfl
  have : c % 6 = 0 ∨ c % 6 = 1 ∨ c % 6 = 2 ∨ c % 6 = 3 ∨ c % 6 = 4 ∨ c % 6 = 5 := by omega
  rcases this with h | h | h | h | h | h
  · have h' : (c : Int) % 6 = 0 := by omega
    refine ⟨c / 6 % 5, by omega, ?_⟩
    have e : ((c / 6 % 5 : Nat) : Int) = (c : Int) / 6 % 5 := by omega
    rw [e]
    simp -implicitDefEqProofs [h, h']
  · have h' : (c : Int) % 6 = 1 := by omega
    obtain ⟨y, hy, hy2⟩ : ∃ y : Nat, (c : Int) / 6 % 49 = (y : Int) ∧ y ≤ 48 := ⟨c / 6 % 49, by omega, by omega⟩
    have hp : 2 ^ y ≤ 2 ^ 48 := Nat.pow_le_pow_right (by decide) hy2
    have h2 : 0 < 2 ^ y := Nat.pow_pos (by decide)
    have hl : 2 ^ 48 = 281474976710656 := by decide
    refine ⟨2 ^ y - 1, by omega, ?_⟩
    have e : ((2 ^ y - 1 : Nat) : Int) = 1 * 2 ^ y - 1 := by
      have : ((2 ^ y : Nat) : Int) = 2 ^ y := by simp
      omega
    have g : gShl (.int 1) (.int (y : Int)) = some (.int (1 * 2 ^ y)) := by
      rw [gShl_if, if_pos ⟨by omega, by omega, by decide⟩, Int.toNat_natCast]
    rw [e]
    generalize (1 * 2 ^ y : Int) = z at *
    simp -implicitDefEqProofs [-gShl_if, h, h', hy, g]
  · have h' : (c : Int) % 6 = 2 := by omega
    obtain ⟨y, hy, hy2⟩ : ∃ y : Nat, (c : Int) / 6 % 48 = (y : Int) ∧ y ≤ 47 := ⟨c / 6 % 48, by omega, by omega⟩
    have hp : 2 ^ y ≤ 2 ^ 47 := Nat.pow_le_pow_right (by decide) hy2
    have hl : 2 ^ 47 = 140737488355328 := by decide
    refine ⟨2 ^ y, by omega, ?_⟩
    have e : ((2 ^ y : Nat) : Int) = 1 * 2 ^ y := by simp
    have g : gShl (.int 1) (.int (y : Int)) = some (.int (1 * 2 ^ y)) := by
      rw [gShl_if, if_pos ⟨by omega, by omega, by decide⟩, Int.toNat_natCast]
    rw [e]
    generalize (1 * 2 ^ y : Int) = z at *
    simp -implicitDefEqProofs [-gShl_if, h, h', hy, g]
  · have h' : (c : Int) % 6 = 3 := by omega
    exact ⟨o, ho, by simp -implicitDefEqProofs [h, h', mMv, getAt_v, setAt_v]⟩
  · have h' : (c : Int) % 6 = 4 := by omega
    refine ⟨281474976710655 - c / 6 % 4, by omega, ?_⟩
    have e : ((281474976710655 - c / 6 % 4 : Nat) : Int) = 281474976710655 - (c : Int) / 6 % 4 := by omega
    rw [e]
    simp -implicitDefEqProofs [h, h']
  · have h' : (c : Int) % 6 = 5 := by omega
    have g1 : gMul (.int ((c : Int) / 6)) (.int ((c : Int) / 6)) = some (.int ((c : Int) / 6 * ((c : Int) / 6))) := gMul_r (by omega) (by omega)
    have g2 : gMul (.int ((c : Int) / 6 * ((c : Int) / 6))) (.int 1000003) = some (.int ((c : Int) / 6 * ((c : Int) / 6) * 1000003)) := gMul_r (by omega) (by omega)
    obtain ⟨v, w, hv, hw, hat⟩ : ∃ (v : Nat) (w : Int), v < top48 ∧ w % 281474976710656 = (v : Int) ∧ atD [Tg.D.int ((c : Int) / 6 / 2), .int ((c : Int) / 6 * ((c : Int) / 6) * 1000003)] ((c : Int) / 6 % 2) = some (.int w) := by
      have : (c : Int) / 6 % 2 = 0 ∨ (c : Int) / 6 % 2 = 1 := by omega
      have key : ∀ w : Int, ∃ v : Nat, v < top48 ∧ w % 281474976710656 = (v : Int) := fun w => ⟨(w % 281474976710656).toNat, by omega, by omega⟩
      rcases this with h | h
      · obtain ⟨v, v1, v2⟩ := key ((c : Int) / 6 / 2); exact ⟨v, _, v1, v2, by rw [h]; rfl⟩
      · obtain ⟨v, v1, v2⟩ := key ((c : Int) / 6 * ((c : Int) / 6) * 1000003); exact ⟨v, _, v1, v2, by rw [h]; rfl⟩
    refine ⟨v, hv, ?_⟩
    simp -implicitDefEqProofs [h, h', g1, g2, hat, hw]
/-- _law_bits -/
theorem bits_l0 (call mk : Call) : ∀ (m i n : Nat) (acc : List Nat), acc.length + m ≤ 48 → sFor (tgN 2) (b_law_bits_l0 call mk) ((List.range' i m).map fun (j : Nat) => .int (j : Int)) [.int n, .lst true (acc.map nD), .hole] = some (.nx [.int ((n / 2 ^ m : Nat) : Int), .lst true ((acc ++ bitsN m n).map nD), .hole])
  | 0, i, n, acc, _ => by
    show some (Fl.nx [Tg.D.int (n : Int), .lst true (acc.map nD), .hole]) = _
    rw [Nat.pow_zero, Nat.div_one, show bitsN 0 n = [] from rfl, List.append_nil]
  | m + 1, i, n, acc, h => by
    have ih := bits_l0 call mk m (i + 1) (n / 2) (acc ++ [n % 2]) (by simp; omega)
    rw [List.range'_succ, List.map_cons, sFor_cons]
    have e1 : n / 2 ^ (m + 1) = n / 2 / 2 ^ m := by rw [Nat.pow_succ, Nat.mul_comm, Nat.div_div_eq_div_mul]
    have e2 : acc ++ bitsN (m + 1) n = acc ++ [n % 2] ++ bitsN m (n / 2) := by rw [List.append_assoc]; rfl
    rw [e1, e2, ← ih]
    have hb : b_law_bits_l0 call mk [.int n, .lst true (acc.map nD), .int (i : Int)] = some (.nx [.int ((n / 2 : Nat) : Int), .lst true ((acc ++ [n % 2]).map nD), .hole]) := by
      rw [u_law_bits_l0]
      have hl : (acc.map nD).length < line := by rw [List.length_map]; unfold line; omega
      have e3 : (acc ++ [n % 2]).map nD = acc.map nD ++ [.int ((n : Int) % 2)] := by rw [List.map_append]; rfl
      have e4 : ((n / 2 : Nat) : Int) = (n : Int) / 2 := by omega
      rw [e3, e4]
      generalize acc.map nD = A at *
      simp -implicitDefEqProofs [hl, getAt_v, setAt_v]
    show forK (b_law_bits_l0 call mk [.int n, .lst true (acc.map nD), .int (i : Int)]) _ = _
    rw [hb]
    rfl
theorem bits_ev (k n : Nat) : callAt T (k + 1) j_law_bits [.int n] = some (.lst true ((bitsN 48 n).map nD), []) := by
  rw [e_law_bits, u_law_bits]
  have h := bits_l0 (callAt T k) (mkAt T k) 48 0 n [] (by simp)
  rw [← List.range_eq_range', List.nil_append, List.map_nil] at h
  have s48 : small62 (48 : Int) = true := small_nat (n := 48) (by omega)
  have hl : 48 ≤ line := by decide
  generalize (bitsN 48 n).map nD = B at *
  generalize ((n / 2 ^ 48 : Nat) : Int) = z at *
  simp -implicitDefEqProofs [s48, hl, h, getAt_v, setAt_v]
/-- _law_by_bits -/
theorem by_l0 (call mk : Call) (s : Nat) (x1 x2 : Tg.D) : ∀ (l : List (Nat × Nat)) (z : Nat), (∀ p ∈ l, p.1 < 2 ∧ p.2 < 2) →
    sFor (tgX [tgN 4, tgN 5]) (b_law_by_bits_l0 call mk) (l.map fun p => .tup [nD p.1, nD p.2]) [.str [s], x1, x2, .int z, .hole, .hole, .hole] = some (.nx [.str [s], x1, x2, .int ((l.foldl (fun z p => 2 * z + bitOf s p.1 p.2) z : Nat) : Int), .hole, .hole, .hole])
  | [], z, _ => rfl
  | p :: l, z, h => by
    obtain ⟨a, b⟩ := p
    obtain ⟨ha, hb⟩ := h (a, b) (by simp)
    have ih := by_l0 call mk s x1 x2 l (2 * z + bitOf s a b) fun q hq => h q (List.mem_cons_of_mem _ hq)
    rw [List.map_cons, sFor_cons, List.foldl_cons, ← ih]
    have ht : tgX [tgN 4, tgN 5] (.tup [nD a, nD b]) [.str [s], x1, x2, .int z, .hole, .hole, .hole] = some [.str [s], x1, x2, .int z, .int a, .int b, .hole] := rfl
    rw [ht]
    have e : b_law_by_bits_l0 call mk [.str [s], x1, x2, .int z, .int a, .int b, .hole] = some (.nx [.str [s], x1, x2, .int ((2 * z + bitOf s a b : Nat) : Int), .hole, .hole, .hole]) := by
      rw [u_law_by_bits_l0]
      have g1 : gMul (.int (a : Int)) (.int (b : Int)) = some (.int ((a : Int) * (b : Int))) := gMul_l (by omega) (by omega)
      have g2 : gMul (.int 2) (.int (z : Int)) = some (.int (2 * (z : Int))) := gMul_l (by decide) (by decide)
      have f1 : gEq (.str [s]) (.str [124]) = some (.bl (decide (s = 124))) := by
        rw [gEq_ss]; by_cases c : s = 124 <;> simp [c]
      have f2 : gEq (.str [s]) (.str [94]) = some (.bl (decide (s = 94))) := by
        rw [gEq_ss]; by_cases c : s = 94 <;> simp [c]
      unfold bitOf
      by_cases c1 : s = 124
      · have c2 : ¬ s = 94 := by omega
        rw [decide_eq_true c1] at f1
        rw [decide_eq_false c2] at f2
        rw [if_pos c1]
        have e2 : ((2 * z + (a + b - a * b) : Nat) : Int) = 2 * (z : Int) + ((a : Int) + (b : Int) - (a : Int) * (b : Int)) := by
          have : a = 0 ∨ a = 1 := by omega
          rcases this with rfl | rfl <;> omega
        rw [e2]
        simp -implicitDefEqProofs [-gEq_ss, f1, f2, g1, g2]
      · rw [decide_eq_false c1] at f1
        rw [if_neg c1]
        by_cases c2 : s = 94
        · rw [decide_eq_true c2] at f2
          rw [if_pos c2]
          have e2 : ((2 * z + (a + b) % 2 : Nat) : Int) = 2 * (z : Int) + ((a : Int) + (b : Int)) % 2 := by omega
          rw [e2]
          simp -implicitDefEqProofs [-gEq_ss, f1, f2, g1, g2]
        · rw [decide_eq_false c2] at f2
          rw [if_neg c2]
          have e2 : ((2 * z + a * b : Nat) : Int) = 2 * (z : Int) + (a : Int) * (b : Int) := by
            rw [Int.natCast_add, Int.natCast_mul, Int.natCast_mul]; rfl
          rw [e2]
          simp -implicitDefEqProofs [-gEq_ss, f1, f2, g1, g2]
    show forK (b_law_by_bits_l0 call mk [.str [s], x1, x2, .int z, .int a, .int b, .hole]) _ = _
    rw [e]
    rfl
theorem by_bits_ev (k s a b : Nat) (hs : s = 38 ∨ s = 124 ∨ s = 94) (ha : a < top48) (hb : b < top48) : callAt T (k + 2) j_law_by_bits [.str [s], .int a, .int b] = some (.int (valN s a b : Nat), []) := by
  rw [e_law_by_bits, u_law_by_bits]
  have h1 := bits_ev k a
  have h2 := bits_ev k b
  have hz : List.zipWith (fun x y => Tg.D.tup [x, y]) ((bitsN 48 a).map nD) ((bitsN 48 b).map nD) = ((bitsN 48 a).zip (bitsN 48 b)).map fun p => .tup [nD p.1, nD p.2] := by
    rw [List.zipWith_map, List.zip, List.map_zipWith]
  have hl := by_l0 (callAt T (k + 1)) (mkAt T (k + 1)) s (.int a) (.int b) ((bitsN 48 a).zip (bitsN 48 b)).reverse 0 fun p hp => by
    have hm := List.of_mem_zip (List.mem_reverse.mp hp : (p.1, p.2) ∈ (bitsN 48 a).zip (bitsN 48 b))
    exact ⟨bitsN_lt _ _ _ hm.1, bitsN_lt _ _ _ hm.2⟩
  have hf : ((bitsN 48 a).zip (bitsN 48 b)).reverse.foldl (fun z p => 2 * z + bitOf s p.1 p.2) 0 = valN s a b := by
    rw [List.foldl_reverse]
    exact putB_val hs ha hb
  rw [hf, List.map_reverse, ← hz] at hl
  have s1 := nDs_shs (bitsN 48 a)
  have s2 := nDs_shs (bitsN 48 b)
  have s3 : D.shs (List.zipWith (fun x y => Tg.D.tup [x, y]) ((bitsN 48 a).map nD) ((bitsN 48 b).map nD)) = true := by
    rw [hz]; exact shs_map _ (fun _ => rfl) _
  have s4 : D.shs (List.zipWith (fun x y => Tg.D.tup [x, y]) ((bitsN 48 a).map nD) ((bitsN 48 b).map nD)).reverse = true := by
    rw [hz, ← List.map_reverse]; exact shs_map _ (fun _ => rfl) _
  simp only [Int.natCast_zero] at hl
  generalize (bitsN 48 a).map nD = A at *
  generalize (bitsN 48 b).map nD = B at *
  generalize valN s a b = v at *
  simp -implicitDefEqProofs [h1, h2, s1, s2, s3, s4, hl, mMv, getAt_v, setAt_v]
/-- _law_right -/
theorem right_ev (k : Nat) (s a b : Nat) (hs : s ∈ sgnL) (ha : a < top48) (hb : b < top48) : callAt T (k + 3) j_law_right [.str [s], .int a, .int b, .int (valN s a b : Nat)] = some (.bl true, []) := by
  have hv := valN_lt (s := s) ha hb
  have h48 : top48 = 281474976710656 := rfl
  rw [e_law_right, u_law_right]
  have gin : ∀ (x : Int) (l : List Int), gIn (.int x) (.lst true (l.map .int)) = some (.bl (l.any fun y => y == x)) := fun x l => by
    rw [gIn_l rfl (by rw [List.all_map]; exact List.all_eq_true.mpr fun _ _ => rfl), List.any_map]
    rfl
  have hv0 : (0 : Int) ≤ ((valN s a b : Nat) : Int) := by omega
  have hv1 : ((valN s a b : Nat) : Int) < 281474976710656 := by omega
  have hv2 : valN s a b < 281474976710656 := by omega
  simp only [sgnL, List.mem_cons, List.not_mem_nil, or_false] at hs
  rcases hs with rfl | rfl | rfl | rfl | rfl | rfl | rfl | rfl | rfl
  · have e : valN 43 a b = (a + b) % top48 := rfl
    have g := gin ((valN 43 a b : Nat) : Int) [(a : Int) + b, (a : Int) + b - 281474976710656]
    have hany : ([(a : Int) + b, (a : Int) + b - 281474976710656].any fun y => y == ((valN 43 a b : Nat) : Int)) = true := by
      rw [e]
      by_cases c : a + b < top48
      · rw [Nat.mod_eq_of_lt c]; simp
      · have : (a + b) % top48 = a + b - top48 := by rw [Nat.mod_eq_sub_mod (by omega), Nat.mod_eq_of_lt (by omega)]
        rw [this]
        have e2 : ((a + b - top48 : Nat) : Int) = (a : Int) + b - 281474976710656 := by omega
        rw [e2]; simp
    rw [hany] at g
    simp only [List.map_cons, List.map_nil] at g
    clear e hany
    generalize valN 43 a b = v at *
    simp -implicitDefEqProofs [hv0, hv1, hv2, g]
  · have e : valN 45 a b = (a + (top48 - b)) % top48 := rfl
    have g := gin ((valN 45 a b : Nat) : Int) [(a : Int) - b, (a : Int) - b + 281474976710656]
    have hany : ([(a : Int) - b, (a : Int) - b + 281474976710656].any fun y => y == ((valN 45 a b : Nat) : Int)) = true := by
      rw [e]
      by_cases c : b ≤ a
      · have : (a + (top48 - b)) % top48 = a - b := by
          rw [show a + (top48 - b) = (a - b) + top48 by omega, Nat.add_mod_right, Nat.mod_eq_of_lt (by omega)]
        rw [this]
        have e2 : ((a - b : Nat) : Int) = (a : Int) - b := by omega
        rw [e2]; simp
      · rw [Nat.mod_eq_of_lt (by omega)]
        have e2 : ((a + (top48 - b) : Nat) : Int) = (a : Int) - b + 281474976710656 := by omega
        rw [e2]; simp
    rw [hany] at g
    simp only [List.map_cons, List.map_nil] at g
    clear e hany
    generalize valN 45 a b = v at *
    simp -implicitDefEqProofs [hv0, hv1, hv2, g]
  · have e : valN 42 a b = a * b % top48 := rfl
    have hm : gMul (.int (a : Int)) (.int (b : Int)) = some (.int ((a : Int) * (b : Int))) := gMul_l (by omega) (by omega)
    have hz : ((a : Int) * (b : Int) - ((valN 42 a b : Nat) : Int)) % 281474976710656 = 0 := by
      rw [e, ← Int.natCast_mul, h48]
      generalize a * b = p
      omega
    clear e
    generalize valN 42 a b = v at *
    simp -implicitDefEqProofs [hv0, hv1, hv2, hm, hz]
  · have e : valN 47 a b = a / b := rfl
    by_cases h0 : b = 0
    · subst h0
      have e0 : valN 47 a 0 = 0 := by rw [e, Nat.div_zero]
      rw [e0]
      simp -implicitDefEqProofs
    · have hbp : 0 < b := by omega
      have hbp' : (0 : Int) < (b : Int) := by omega
      have m1 : gMul (.int ((valN 47 a b : Nat) : Int)) (.int (b : Int)) = some (.int (((valN 47 a b : Nat) : Int) * (b : Int))) := gMul_l (by omega) (by omega)
      have m2 : gMul (.int (((valN 47 a b : Nat) : Int) + 1)) (.int (b : Int)) = some (.int ((((valN 47 a b : Nat) : Int) + 1) * (b : Int))) := gMul_l (by omega) (by omega)
      have q1 : ((valN 47 a b : Nat) : Int) * (b : Int) ≤ (a : Int) := by
        rw [e, ← Int.natCast_mul]
        exact Int.ofNat_le.mpr (Nat.div_mul_le_self a b)
      have q2 : (a : Int) < (((valN 47 a b : Nat) : Int) + 1) * (b : Int) := by
        rw [e, show ((a / b : Nat) : Int) + 1 = ((a / b + 1 : Nat) : Int) by omega, ← Int.natCast_mul]
        exact Int.ofNat_lt.mpr (by rw [Nat.succ_mul]; exact Nat.lt_div_mul_add hbp)
      clear e
      generalize ((valN 47 a b : Nat) : Int) * (b : Int) = p1 at *
      generalize (((valN 47 a b : Nat) : Int) + 1) * (b : Int) = p2 at *
      generalize valN 47 a b = v at *
      simp -implicitDefEqProofs [hv0, hv1, hv2, h0, hbp, hbp', m1, m2, q1, q2]
  · have e : valN 60 a b = if a < b then 1 else 0 := rfl
    rw [e] at hv0 hv1 hv2 ⊢
    by_cases c : a < b
    · have c' : (a : Int) < (b : Int) := by omega
      simp -implicitDefEqProofs [c, c']
    · have c' : ¬ (a : Int) < (b : Int) := by omega
      simp -implicitDefEqProofs [c, c']
  · have e : valN 61 a b = if a = b then 1 else 0 := rfl
    rw [e] at hv0 hv1 hv2 ⊢
    by_cases c : a = b
    · have c' : (a : Int) = (b : Int) := by omega
      simp -implicitDefEqProofs [c, c']
    · have c' : ¬ (a : Int) = (b : Int) := by omega
      simp -implicitDefEqProofs [c, c']
  · have h := by_bits_ev k 38 a b (by omega) ha hb
    generalize valN 38 a b = v at *
    simp -implicitDefEqProofs [hv0, hv1, hv2, h]
  · have h := by_bits_ev k 124 a b (by omega) ha hb
    generalize valN 124 a b = v at *
    simp -implicitDefEqProofs [hv0, hv1, hv2, h]
  · have h := by_bits_ev k 94 a b (by omega) ha hb
    generalize valN 94 a b = v at *
    simp -implicitDefEqProofs [hv0, hv1, hv2, h]
/-- one sign -/
theorem law_l0 (ns : List Int) (hns : ns.length ≤ 63) (i : Nat) (hi : i < 9) : b_law_l0 (callAt T 59) (mkAt T 59) [.scr ns, .int i, .hole, .hole, .hole] = some (.nx [.scr ns, .hole, .hole, .hole, .hole]) := by
  rw [u_law_l0]
  obtain ⟨c1, b1, e1⟩ := cell_ev 58 ns (2 * i) hns (by omega)
  obtain ⟨c2, b2, e2⟩ := cell_ev 58 ns (2 * i + 1) hns (by omega)
  have e1 : callAt T 59 j_law_cell [.scr ns, .int ((2 * i : Nat) : Int)] = some (.int (c1 : Nat), []) := e1
  have e2 : callAt T 59 j_law_cell [.scr ns, .int ((2 * i + 1 : Nat) : Int)] = some (.int (c2 : Nat), []) := e2
  rw [show ((2 * i : Nat) : Int) = 2 * (i : Int) by omega] at e1
  rw [show ((2 * i + 1 : Nat) : Int) = 2 * (i : Int) + 1 by omega] at e2
  obtain ⟨a, ha, d1⟩ := drawn_ev 58 c1 7 b1 (by decide)
  have d1 : callAt T 59 j_law_drawn [.int c1, .int 7] = some (.int (a : Nat), []) := d1
  obtain ⟨b, hb, d2⟩ := drawn_ev 58 c2 a b2 ha
  have d2 : callAt T 59 j_law_drawn [.int c2, .int a] = some (.int (b : Nat), []) := d2
  have hm : gMul (.int 2) (.int (i : Int)) = some (.int (2 * (i : Int))) := gMul_l (by decide) (by decide)
  obtain ⟨s, hs, hat⟩ : ∃ s : Nat, s ∈ sgnL ∧ gIx (.str [43, 45, 42, 47, 60, 61, 38, 124, 94]) (.int (i : Int)) = some (.str [s]) := by
    have : i = 0 ∨ i = 1 ∨ i = 2 ∨ i = 3 ∨ i = 4 ∨ i = 5 ∨ i = 6 ∨ i = 7 ∨ i = 8 := by omega
    rcases this with rfl | rfl | rfl | rfl | rfl | rfl | rfl | rfl | rfl <;> exact ⟨_, by simp [sgnL], rfl⟩
  have v1 : callAt T 59 j_value [.str [s], .int a, .int b] = some (.int (valN s a b : Nat), []) := value_ev 58 s a b ha hb
  have v2 : callAt T 59 j_value [.str [s], .int b, .int a] = some (.int (valN s b a : Nat), []) := value_ev 58 s b a hb ha
  have r1 : callAt T 59 j_law_right [.str [s], .int a, .int b, .int (valN s a b : Nat)] = some (.bl true, []) := right_ev 56 s a b hs ha hb
  have r2 : callAt T 59 j_law_right [.str [s], .int b, .int a, .int (valN s b a : Nat)] = some (.bl true, []) := right_ev 56 s b a hs hb ha
  generalize valN s a b = va at *
  generalize valN s b a = vb at *
  simp -implicitDefEqProofs [hm, e1, e2, d1, d2, hat, v1, v2, r1, r2]
theorem main : Main := fun ns hns => by
  show callAt T (59 + 1) j_law [.scr ns] = _
  rw [e_law, u_law]
  have hl : sFor (tgN 1) (b_law_l0 (callAt T 59) (mkAt T 59)) ((List.range 9).map fun (i : Nat) => .int (i : Int)) [.scr ns, .hole, .hole, .hole, .hole] = some (.nx [.scr ns, .hole, .hole, .hole, .hole]) :=
    sFor_all (fun i : Nat => Tg.D.int (i : Int)) [.scr ns, .hole, .hole, .hole, .hole] (List.range 9) fun i hi => ⟨_, rfl, law_l0 ns hns i (List.mem_range.mp hi)⟩
  have s9 : small62 (9 : Int) = true := small_nat (n := 9) (by omega)
  have h9 : 9 ≤ line := by decide
  simp -implicitDefEqProofs [s9, h9, hl]
end Lw

theorem PySem.Challenge.cw_turnguard_k21_values_holds : PySem.Challenge.rw_turnguard_k21_values.Holds := by
  exact Lw.holds Lw.main
